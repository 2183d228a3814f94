import PyProof.Rows.All
import HandS.ForMost
import HandS.Iter
import KE.KDictKeyed
import KE.KDictWalk
import HandS.DictComp
import HandS.Comp
import HandS.TupMul
import HandS.TupAny
import HandS.Conv
import HandS.Deep
import HandS.Zip
import HandS.IsInst
import HandS.Style
import KE.SortData
import KE.DataCmp
import KE.DataMinMax
import KE.DataFind
import HandS.Lambda
import HandS.HeadHook4
import HandS.TupLen
import HandS.Text
import KE.GoesEnum
import HandS.Defaults
import HandS.MakeKwOnly
import KE.KRevSl
import PyProof.EqAt
import HandS.Strs
import HandS.SortKw
import KE.KDictDisplayH
import KE.GoesZip
import KE.GoesMore
import HandS.TupSets
import HandS.Remove
import HandS.WordsExc
import KE.DataMinKey
import KE.SortKeyed
import HandS.FStr
import HandS.RaiseMore
import KE.GoesEnumKw
import HandS.SetBool
import HandS.Head0
import HandS.Head1
import HandS.Head2
import HandS.HeadEnd
import HandS.HeadHook1
import HandS.HeadHook2
import HandS.EndTab
import HandS.HeadWalk
import HandS.ForExc
import HandS.ExcInitHot
import HandS.ExcIs
import HandS.ExcField
import HandS.HotCalls
import HandS.ClsMeth
import KE.KExcIs
import PySem.Challenge.RW_likedways_k42_guilds_of_trades
set_option Elab.async false
set_option linter.all false
set_option maxRecDepth 100000
set_option maxHeartbeats 4000000
namespace DN
open PySem PySem.Spec PyProof.Rows L2
mutual
def hsh : NestedKey → Int
  | .none => reduceHash 0xFCA86420
  | .num i => hashInt i
  | .text _ => 0
  | .tup ks => reduceHash (Builtin.Tuple.tupleHashOf (hshs ks))
def hshs : List NestedKey → List Int
  | [] => []
  | k :: ks => hsh k :: hshs ks
end
mutual
def plain : NestedKey → Bool
  | .none => true
  | .num _ => true
  | .text _ => false
  | .tup ks => plains ks
def plains : List NestedKey → Bool
  | [] => true
  | k :: ks => plain k && plains ks
end
mutual
theorem hsh_eq (w : World) : ∀ k : NestedKey, plain k = true → k.hash w = hsh k
  | .none, _ => by rw [NestedKey.hash, hsh]
  | .num i, _ => by rw [NestedKey.hash, hsh]
  | .text _, h => by simp [plain] at h
  | .tup ks, h => by rw [NestedKey.hash, hsh, hshs_eq w ks (by simpa [plain] using h)]
theorem hshs_eq (w : World) : ∀ ks : List NestedKey, plains ks = true → NestedKey.hashes w ks = hshs ks
  | [], _ => by rw [NestedKey.hashes, hshs]
  | k :: ks, h => by
    rw [plains, Bool.and_eq_true] at h
    rw [NestedKey.hashes, hshs, hsh_eq w k h.1, hshs_eq w ks h.2]
end
mutual
inductive KeyIs (H : Hp) : V → NestedKey → Prop
  | non : KeyIs H .non .none
  | int (i : Int) : KeyIs H (.int i) (.num i)
  | tup {a : Addr} {xs : List V} {ks : List NestedKey} : Rd H a (.tup xs) → KeyAll H xs ks → KeyIs H (.ref a) (.tup ks)
inductive KeyAll (H : Hp) : List V → List NestedKey → Prop
  | nil : KeyAll H [] []
  | cons {v : V} {k : NestedKey} {vs : List V} {ks : List NestedKey} : KeyIs H v k → KeyAll H vs ks → KeyAll H (v :: vs) (k :: ks)
end
mutual
theorem KeyIs.plain {H : Hp} : ∀ {v : V} {k : NestedKey}, KeyIs H v k → DN.plain k = true
  | _, _, .non => rfl
  | _, _, .int _ => rfl
  | _, _, .tup _ r => by rw [DN.plain]; exact KeyAll.plain r
theorem KeyAll.plain {H : Hp} : ∀ {vs : List V} {ks : List NestedKey}, KeyAll H vs ks → DN.plains ks = true
  | _, _, .nil => rfl
  | _, _, .cons a b => by rw [DN.plains, KeyIs.plain a, KeyAll.plain b]; rfl
end
mutual
theorem KeyIs.nested {P : Program} {w : World} {H : Hp} {h : Heap} (ok : HOk P w H h) : ∀ {v : V} {k : NestedKey} {u : Value}, KeyIs H v k → RelV v u → NestedIs h k u
  | _, _, _, .non, r => by cases r; exact .none
  | _, _, _, .int i, r => by obtain ⟨t, rfl⟩ := r; exact .int i t
  | _, _, _, .tup e q, r => by
    cases r
    obtain ⟨_, its, rv, ob, h1, h2, n, h3⟩ := e.ok ok
    exact .tup h1 h2 h3 (by simpa using KeyAll.nested ok q rv)
theorem KeyAll.nested {P : Program} {w : World} {H : Hp} {h : Heap} (ok : HOk P w H h) : ∀ {vs : List V} {ks : List NestedKey} {us : List Value}, KeyAll H vs ks → Vals vs us → NestedAll h ks us
  | _, _, _, .nil, .nil => .nil
  | _, _, _, .cons a b, .cons r t => .cons (KeyIs.nested ok a r) (KeyAll.nested ok b t)
end
def KeyOk (H : Hp) (k : NestedKey) (b : Addr) : Prop := KeyIs H (.ref b) k ∧ k.depth ≤ 8
theorem KeyOk.is {P : Program} {w : World} {H : Hp} {h : Heap} {k : NestedKey} {b : Addr} (x : KeyOk H k b) (ok : HOk P w H h) : (nestedKind P w).is h k b := ⟨x.1.nested ok rfl, x.2⟩
abbrev Ent := NestedKey × Addr × V
def EntR (p : Ent) (e : DictEntry) : Prop := e.hash = hsh p.1 ∧ e.key = .ref p.2.1 ∧ RelV p.2.2 e.val
def DKp (a : Addr) (ep : Nat) (xs : List Ent) (h : Heap) : Prop :=
  (a == sysModules) = false ∧ xs.length ≤ sizeLine ∧ (xs.map (·.1)).Nodup ∧ ∃ o es, h.get? a = some o ∧ o.ExactDict ∧ o.data = .dict es ep ∧ Paired EntR xs es.toList
def DK (a : Addr) (ep : Nat) (xs : List Ent) : HO := .ext (DKp a ep xs)
theorem DKp.stay {a : Addr} {ep : Nat} {xs : List Ent} {h1 h2 : Heap} (x : DKp a ep xs h1) (k : ∀ o, h1.get? a = some o → h2.get? a = some o) : DKp a ep xs h2 := by
  obtain ⟨z, l, nd, o, es, e, r⟩ := x
  exact ⟨z, l, nd, o, es, k o e, r⟩
theorem DKp.obj {P : Program} {w : World} {H : Hp} {a : Addr} {ep : Nat} {xs : List Ent} {h : Heap} (x : DKp a ep xs h) : ObjOk P w H h a (DK a ep xs) := by
  refine ⟨x, ?_, fun h1 h2 y k => y.stay k⟩
  obtain ⟨_, _, _, o, _, e, _⟩ := x
  exact ⟨o, e⟩
theorem DK.at {P : Program} {w : World} {H : Hp} {a : Addr} {ep : Nat} {xs : List Ent} {h : Heap} (ok : HOk P w H h) (e : H a = some (DK a ep xs)) : DKp a ep xs h := (ok a _ e).1
abbrev EV := NestedKey × Addr × Value
def EnvR (p : Ent) (q : EV) : Prop := q.1 = p.1 ∧ q.2.1 = p.2.1 ∧ RelV p.2.2 q.2.2
theorem ent_vals {P : Program} {w : World} : ∀ {xs : List Ent} {es : List DictEntry}, (∀ x ∈ xs, plain x.1 = true) → Paired EntR xs es → ∃ ys : List EV, Paired EnvR xs ys ∧ es = ys.map (entryOfKey (nestedKind P w))
  | _, _, _, .nil => ⟨[], .nil, rfl⟩
  | x :: xs, e :: es, hp, .cons r t => by
    obtain ⟨ys, h1, h2⟩ := ent_vals (P := P) (w := w) (fun y hy => hp y (List.mem_cons_of_mem _ hy)) t
    refine ⟨(x.1, x.2.1, e.val) :: ys, .cons ⟨rfl, rfl, r.2.2⟩ h1, ?_⟩
    rw [List.map_cons, ← h2]
    congr 1
    have : (nestedKind P w).hash x.1 = e.hash := by
      rw [r.1]
      exact hsh_eq w x.1 (hp x (List.mem_cons_self ..))
    unfold entryOfKey
    simp only
    rw [this, ← r.2.1]
theorem vals_ent {P : Program} {w : World} : ∀ {xs : List Ent} {ys : List EV}, (∀ x ∈ xs, plain x.1 = true) → Paired EnvR xs ys → Paired EntR xs (ys.map (entryOfKey (nestedKind P w)))
  | _, _, _, .nil => .nil
  | x :: xs, y :: ys, hp, .cons r t => by
    refine .cons ⟨?_, ?_, r.2.2⟩ (vals_ent (fun z hz => hp z (List.mem_cons_of_mem _ hz)) t)
    · show (nestedKind P w).hash y.1 = hsh x.1
      rw [r.1]
      exact hsh_eq w x.1 (hp x (List.mem_cons_self ..))
    · show Value.ref y.2.1 = .ref x.2.1
      rw [r.2.1]
theorem env_keys : ∀ {xs : List Ent} {ys : List EV}, Paired EnvR xs ys → ys.map (·.1) = xs.map (·.1)
  | _, _, .nil => rfl
  | _, _, .cons r t => by rw [List.map_cons, List.map_cons, r.1, env_keys t]
theorem env_mem : ∀ {xs : List Ent} {ys : List EV}, Paired EnvR xs ys → ∀ y ∈ ys, ∃ x ∈ xs, EnvR x y
  | _, _, .nil, y, h => by cases h
  | _, _, .cons r t, y, h => by
    rcases List.mem_cons.mp h with rfl | h
    · exact ⟨_, List.mem_cons_self .., r⟩
    · obtain ⟨x, h1, h2⟩ := env_mem t y h
      exact ⟨x, List.mem_cons_of_mem _ h1, h2⟩
def KeysOk (H : Hp) (xs : List Ent) : Prop := ∀ x ∈ xs, KeyOk H x.1 x.2.1
theorem KeysOk.plain {H : Hp} {xs : List Ent} (h : KeysOk H xs) : ∀ x ∈ xs, DN.plain x.1 = true := fun x hx => (h x hx).1.plain
theorem dn_of {P : Program} {w : World} {H : Hp} {h : Heap} {a : Addr} {ep : Nat} {xs : List Ent} (ok : HOk P w H h) (e : H a = some (DK a ep xs)) (ks : KeysOk H xs) :
    xs.length ≤ sizeLine ∧ (a == sysModules) = false ∧ ∃ ys : List EV, Paired EnvR xs ys ∧ h.DictOfH (nestedKind P w) a ys ∧ ∃ es, h.DictRaw a es ep ∧ es.toList = ys.map (entryOfKey (nestedKind P w)) := by
  obtain ⟨z, l, nd, o, es, e1, e2, e3, r⟩ := DK.at ok e
  obtain ⟨ys, h1, h2⟩ := ent_vals (P := P) (w := w) ks.plain r
  refine ⟨l, z, ys, h1, ⟨o, es, ep, e1, e2, e3, h2, fun y hy => ?_, by rw [env_keys h1]; exact nd⟩, es, ⟨o, e1, e2, e3⟩, h2⟩
  obtain ⟨x, hx, q1, q2, _⟩ := env_mem h1 y hy
  rw [q1, q2]
  exact (ks x hx).is ok
section
variable {α : Type}
def atN (xs : List (NestedKey × Addr × α)) (k : NestedKey) : Option (Addr × α) := (xs.find? fun x => decide (x.1 = k)).map (·.2)
def putN (k : NestedKey) (v : α) (x : NestedKey × Addr × α) : NestedKey × Addr × α := if x.1 = k then (x.1, x.2.1, v) else x
def storedN (xs : List (NestedKey × Addr × α)) (k : NestedKey) (a : Addr) (v : α) : List (NestedKey × Addr × α) := if (atN xs k).isSome then xs.map (putN k v) else xs ++ [(k, a, v)]
def withoutN (xs : List (NestedKey × Addr × α)) (k : NestedKey) : List (NestedKey × Addr × α) := xs.filter fun x => decide (x.1 ≠ k)
end
theorem at_env {xs : List Ent} {ys : List EV} (r : Paired EnvR xs ys) (k : NestedKey) : (atN xs k = none ∧ atKey ys k = none) ∨ ∃ b v u, atN xs k = some (b, v) ∧ atKey ys k = some (b, u) ∧ RelV v u := by
  induction r with
  | nil => exact .inl ⟨rfl, rfl⟩
  | @cons x y xs ys r t ih =>
    unfold atN atKey at ih ⊢
    by_cases h : x.1 = k
    · refine .inr ⟨x.2.1, x.2.2, y.2.2, ?_, ?_, r.2.2⟩
      · rw [List.find?_cons_of_pos (by simpa using h)]; rfl
      · rw [List.find?_cons_of_pos (by rw [r.1]; simpa using h)]
        show some (y.2.1, y.2.2) = _
        rw [r.2.1]
    · rw [List.find?_cons_of_neg (by simpa using h), List.find?_cons_of_neg (by rw [r.1]; simpa using h)]
      exact ih
theorem put_env {k : NestedKey} {v : V} {u : Value} (rv : RelV v u) : ∀ {xs : List Ent} {ys : List EV}, Paired EnvR xs ys → Paired EnvR (xs.map (putN k v)) (ys.map (putAt k u))
  | _, _, .nil => .nil
  | x :: xs, y :: ys, .cons r t => by
    refine .cons ?_ (put_env rv t)
    unfold putN putAt
    rw [r.1]
    by_cases h : x.1 = k
    · rw [if_pos h, if_pos h]; exact ⟨rfl, r.2.1, rv⟩
    · rw [if_neg h, if_neg h]; exact r
theorem env_app {p : Ent} {q : EV} (r2 : EnvR p q) : ∀ {xs : List Ent} {ys : List EV}, Paired EnvR xs ys → Paired EnvR (xs ++ [p]) (ys ++ [q])
  | _, _, .nil => .cons r2 .nil
  | _, _, .cons r t => .cons r (env_app r2 t)
theorem stored_env {xs : List Ent} {ys : List EV} (r : Paired EnvR xs ys) (k : NestedKey) (b : Addr) {v : V} {u : Value} (rv : RelV v u) : Paired EnvR (storedN xs k b v) (storedH ys k b u) := by
  unfold storedN storedH
  rcases at_env r k with ⟨h1, h2⟩ | ⟨c, v', u', h1, h2, _⟩
  · rw [h1, h2]; exact env_app ⟨rfl, rfl, rv⟩ r
  · rw [h1, h2]; exact put_env rv r
theorem without_env (k : NestedKey) : ∀ {xs : List Ent} {ys : List EV}, Paired EnvR xs ys → Paired EnvR (withoutN xs k) (withoutH ys k)
  | _, _, .nil => .nil
  | x :: xs, y :: ys, .cons r t => by
    have ih := without_env k t
    unfold withoutN withoutH at ih ⊢
    by_cases h : x.1 = k
    · rw [List.filter_cons_of_neg (by simpa using h), List.filter_cons_of_neg (by rw [r.1]; simpa using h)]; exact ih
    · rw [List.filter_cons_of_pos (by simpa using h), List.filter_cons_of_pos (by rw [r.1]; simpa using h)]; exact .cons r ih
theorem stored_len {α : Type} (xs : List (NestedKey × Addr × α)) (k : NestedKey) (b : Addr) (v : α) : (storedN xs k b v).length ≤ xs.length + 1 := by
  unfold storedN
  split <;> simp
theorem stored_keys {H : Hp} {xs : List Ent} {k : NestedKey} {b : Addr} {v : V} (h : KeysOk H xs) (hk : KeyOk H k b) : KeysOk H (storedN xs k b v) := fun x hx => by
  unfold storedN at hx
  split at hx
  · obtain ⟨y, hy, rfl⟩ := List.mem_map.mp hx
    have := h y hy
    unfold putN
    split
    · exact this
    · exact this
  · rcases List.mem_append.mp hx with hx | hx
    · exact h x hx
    · rw [List.mem_singleton] at hx
      subst hx
      exact hk
theorem without_keys {H : Hp} {xs : List Ent} {k : NestedKey} (h : KeysOk H xs) : KeysOk H (withoutN xs k) := fun x hx => h x (List.mem_filter.mp hx).1
mutual
theorem KeyIs.mono {H H' : Hp} (k : ∀ a xs, Rd H a (.tup xs) → Rd H' a (.tup xs)) : ∀ {v : V} {y : NestedKey}, KeyIs H v y → KeyIs H' v y
  | _, _, .non => .non
  | _, _, .int i => .int i
  | _, _, .tup e r => .tup (k _ _ e) (KeyAll.mono k r)
theorem KeyAll.mono {H H' : Hp} (k : ∀ a xs, Rd H a (.tup xs) → Rd H' a (.tup xs)) : ∀ {vs : List V} {ys : List NestedKey}, KeyAll H vs ys → KeyAll H' vs ys
  | _, _, .nil => .nil
  | _, _, .cons a b => .cons (KeyIs.mono k a) (KeyAll.mono k b)
end
section
variable {X : Cx} {pins : List (Addr × Obj)} {σ : L2.St} {H : Hp} {s : Shared} {a b : Addr} {v : V} {u r : Value} {A : Around} {E : Value → Shared → Prop} {ep : Nat} {xs : List Ent} {k : NestedKey}
theorem room_in1 (hu : A.units + 10 < cLine) : (nestedKind X.prog X.w).room A.in1 := by
  show A.in1.units + 8 < cLine
  have : A.in1.units ≤ A.units + 1 := Nat.le_refl _
  omega
theorem n_typeIs (I : Inv X pins σ H s) (e : H a = some (DK a ep xs)) : s.TypeIs (.ref a) "dict" := by
  obtain ⟨_, _, _, o, es, e1, e2, _⟩ := DK.at I.hok e
  exact ⟨o, e1, e2.1⟩
theorem n_noDict (I : Inv X pins σ H s) (e : H a = some (DK a ep xs)) : ∀ b, Value.ref a = .ref b → ∃ ob, s.heap.get? b = some ob ∧ ob.dict = none := fun b q => by
  cases q
  obtain ⟨_, _, _, o, es, e1, e2, _⟩ := DK.at I.hok e
  exact ⟨o, e1, e2.2.1⟩
theorem n_getItem {Q : Value → Shared → Prop} (hu : A.units + 10 < cLine) (I : Inv X pins σ H s) (e : H a = some (DK a ep xs)) (ks : KeysOk H xs) (hk : KeyOk H k b) (l : (atN xs k).map (·.2) = some v) (h : ∀ w' s', Inv X pins σ H s' → RelV v w' → Q w' s') :
    wpAny (model X.prog X.w) A (getItem (.ref a) (.ref b)) Q E s := by
  obtain ⟨_, _, ys, rel, dd, _⟩ := dn_of I.hok e ks
  rcases at_env rel k with ⟨h1, _⟩ | ⟨c, v', u', h1, h2, rv⟩
  · rw [h1] at l; cases l
  · rw [h1] at l
    have l' : v' = v := Option.some.inj l
    subst l'
    exact wpAny_getItem_heap (room_in1 hu) (hk.is I.hok) dd h2 (h u' _ (I.tok _) rv)
theorem n_in {Q : Value → Shared → Prop} (hu : A.units + 10 < cLine) (I : Inv X pins σ H s) (e : H a = some (DK a ep xs)) (ks : KeysOk H xs) (hk : KeyOk H k b) (h : ∀ s', Inv X pins σ H s' → Q (.bool (atN xs k).isSome) s') :
    wpAny (model X.prog X.w) A (compareOp .In (.ref b) (.ref a)) Q E s := by
  obtain ⟨_, hd, ys, rel, dd, _⟩ := dn_of I.hok e ks
  refine wpAny_in_heap (room_in1 hu) (hk.is I.hok) hd dd ?_
  have q : (atKey ys k).isSome = (atN xs k).isSome := by
    rcases at_env rel k with ⟨h1, h2⟩ | ⟨c, v', u', h1, h2, rv⟩ <;> rw [h1, h2] <;> rfl
  rw [q]
  exact h _ (I.tok _)
theorem n_notIn {Q : Value → Shared → Prop} (hu : A.units + 10 < cLine) (I : Inv X pins σ H s) (e : H a = some (DK a ep xs)) (ks : KeysOk H xs) (hk : KeyOk H k b) (h : ∀ s', Inv X pins σ H s' → Q (.bool (!(atN xs k).isSome)) s') :
    wpAny (model X.prog X.w) A (compareOp .NotIn (.ref b) (.ref a)) Q E s := by
  obtain ⟨_, hd, ys, rel, dd, _⟩ := dn_of I.hok e ks
  refine wpAny_notIn_heap (room_in1 hu) (hk.is I.hok) hd dd ?_
  have q : (atKey ys k).isSome = (atN xs k).isSome := by
    rcases at_env rel k with ⟨h1, h2⟩ | ⟨c, v', u', h1, h2, rv⟩ <;> rw [h1, h2] <;> rfl
  rw [q]
  exact h _ (I.tok _)
theorem mut_dk (e : H a = some (DK a ep xs)) : Mut (H a) := by rw [e]; exact True.intro
theorem n_setItem {Q : Unit → Shared → Prop} (hu : A.units + 10 < cLine) (I : Inv X pins σ H s) (e : H a = some (DK a ep xs)) (ks : KeysOk H xs) (hk : KeyOk H k b) (hl : xs.length < sizeLine) (rv : RelV v r)
    (h : ∀ (ep' : Nat) s', Inv X pins σ (upd H a (DK a ep' (storedN xs k b v))) s' → Q () s') : wpAny (model X.prog X.w) A (setItem (.ref a) (.ref b) r) Q E s := by
  obtain ⟨z, hd, ys, rel, dd, _⟩ := dn_of I.hok e ks
  have hz : ys.length ≤ sizeLine := by rw [← Paired.length rel]; exact z
  refine wpAny_setItem_heap (hsz := hz) (room_in1 hu) (hk.is I.hok) dd fun h' dd' hs => ?_
  obtain ⟨q, es, ep', hq, h2, h3, h4, _, h5⟩ := dd'
  have rel' := stored_env rel k b rv
  have hkeys := stored_keys (v := v) ks hk
  have hp : DKp a ep' (storedN xs k b v) h' := ⟨hd, by have := stored_len xs k b v; omega, by rw [← env_keys rel']; exact h5, q, es, hq, h2, h3, by rw [h4]; exact vals_ent hkeys.plain rel'⟩
  exact h ep' _ (d_write I (mut_dk e) hs ⟨q, hq⟩ hp.obj)
theorem n_pop {Q : Value → Shared → Prop} (hu : A.units + 10 < cLine) (I : Inv X pins σ H s) (e : H a = some (DK a ep xs)) (ks : KeysOk H xs) (hk : KeyOk H k b) (l : (atN xs k).map (·.2) = some v)
    (h : ∀ (ep' : Nat) w' s', Inv X pins σ (upd H a (DK a ep' (withoutN xs k))) s' → RelV v w' → Q w' s') : wpAny (model X.prog X.w) A (call (.builtin "dict.pop") [.ref a, .ref b]) Q E s := by
  obtain ⟨z, hd, ys, rel, dd, _⟩ := dn_of I.hok e ks
  have hz : ys.length ≤ sizeLine := by rw [← Paired.length rel]; exact z
  rcases at_env rel k with ⟨h1, _⟩ | ⟨c, v', u', h1, h2, rv⟩
  · rw [h1] at l; cases l
  · rw [h1] at l
    have l' : v' = v := Option.some.inj l
    subst l'
    refine call_pop_heap (hsz := hz) (.inl rfl) (F.args_dict_pop_2 _ _) (room_in1 hu) (hk.is I.hok) hd dd h2 fun h' dd' hs => ?_
    obtain ⟨q, es, ep', hq, h2, h3, h4, _, h5⟩ := dd'
    have rel' := without_env k rel
    have hkeys := without_keys (k := k) ks
    have hp : DKp a ep' (withoutN xs k) h' := ⟨hd, Nat.le_trans (List.length_filter_le _ _) z, by rw [← env_keys rel']; exact h5, q, es, hq, h2, h3, by rw [h4]; exact vals_ent hkeys.plain rel'⟩
    exact h ep' u' _ (d_write I (mut_dk e) hs ⟨q, hq⟩ hp.obj) rv
end
section
variable {X : Cx} {o i e value : Expr} {pos pos' tpos apos cpos : Pos} {td ty tv : TE}
def AtD (H : Hp) (x y : V) (F : Addr → Nat → List Ent → NestedKey → Addr → Prop) : Prop := ∃ a ep xs k b, x = .ref a ∧ y = .ref b ∧ H a = some (DK a ep xs) ∧ KeysOk H xs ∧ KeyOk H k b ∧ F a ep xs k b
def tNGet (td ty : TE) : TE := fun σ H Q => td σ H fun x H1 => ty σ H1 fun y H2 => AtD H2 x y fun a ep xs k b => ∃ v, (atN xs k).map (·.2) = some v ∧ Q v H2
def sNPut (td ty tv : TE) : TS := fun D σ H => tv σ H fun v H1 => td σ H1 fun x H2 => ty σ H2 fun y H3 => AtD H3 x y fun a ep xs k b => xs.length < sizeLine ∧ ∀ ep', D.nx σ (upd H3 a (DK a ep' (storedN xs k b v)))
theorem pe_nget (hu : X.A.units + 10 < cLine) (ho : PE X o td) (hi : PE X i ty) (hs : NoSl i) : PE X (.Subscript o i pos) (tNGet td ty) := by
  refine ⟨fun pins s σ H Q I h => ?_⟩
  refine subD_of PySem.F.slot_dict_getitem.lookup hs (thn (ho.run pins s σ H _ I h) fun u s1 ⟨x, H1, I1, rx, q1⟩ => thn (hi.run pins s1 σ H1 _ I1 q1) fun iv s2 ⟨y, H2, I2, ry, a, ep, xs, k, b, ex, ey, g, ks, hk, v, l, q2⟩ => ?_)
  subst ex ey
  obtain rfl : u = Value.ref a := rx
  obtain rfl : iv = Value.ref b := ry
  exact ⟨n_typeIs I2 g, n_getItem hu I2 g ks hk l fun w' s3 I3 rw' => ⟨v, H2, I3, rw', q2⟩⟩
theorem ps_nput (hu : X.A.units + 10 < cLine) (ho : PE X o td) (hi : PE X i ty) (hv : PE X value tv) (hs : swapsWith value (some (.Subscript o i pos')) pos.line X.env = pure false) :
    PS X (.Assign [.Subscript o i pos'] value pos) (sNPut td ty tv) := by
  refine ⟨fun pins s σ H D I h => ?_⟩
  refine wpAny_Assign_Subscript (thn (hv.run pins s σ H _ I h) fun r s1 ⟨v, H1, I1, rv, q1⟩ => thn (ho.run pins s1 σ H1 _ I1 q1) fun u s2 ⟨x, H2, I2, rx, q2⟩ => thn (hi.run pins s2 σ H2 _ I2 q2) fun iv s3 ⟨y, H3, I3, ry, a, ep, xs, k, b, ex, ey, g, ks, hk, hl, q3⟩ => ?_) hs
  subst ex ey
  obtain rfl : u = Value.ref a := rx
  obtain rfl : iv = Value.ref b := ry
  exact n_setItem hu I3 g ks hk hl rv fun ep' s4 I4 => ⟨σ, _, I4, q3 ep'⟩
def tNNew : TE := fun _ H Q => ∀ p, H p = none → Q (.ref p) (upd H p (DK p 0 []))
theorem pe_nnew : PE X (.Dict [] [] pos) tNNew := ⟨fun pins s σ H Q I h =>
  wpAny_Dict_empty ⟨.ref s.heap.objs.size, _, I.laid (a := s.heap.objs.size) (o := DK s.heap.objs.size 0 []) (t' := s.toks) (fun _ _ q => Heap.get?_push_of_some _ q) (Nat.le_refl _)
    (DKp.obj ⟨beq_eq_false_iff_ne.mpr (Ne.symm (Nat.ne_of_lt I.big)), Nat.zero_le _, List.nodup_nil, _, #[], Heap.get?_push_size _ rfl, ⟨rfl, rfl, rfl⟩, rfl, .nil⟩), rfl, h _ (I.hok.fresh (Nat.le_refl _))⟩⟩
def tNPop (td ty : TE) : TE := fun σ H Q => td σ H fun x H1 => ∃ a ep0 xs0, x = .ref a ∧ H1 a = some (DK a ep0 xs0) ∧ ty σ H1 fun y H2 => AtD H2 x y fun a ep xs k b => ∃ v, (atN xs k).map (·.2) = some v ∧ ∀ ep', Q v (upd H2 a (DK a ep' (withoutN xs k)))
theorem pe_npop (hu : X.A.units + 10 < cLine) (ho : PE X o td) (he : PE X e ty) (m : M1 X o "pop" apos e cpos) : PE X (.Call (.Attribute o "pop" apos) [e] [] cpos) (tNPop td ty) := by
  refine ⟨fun pins s σ H Q I h => ?_⟩
  refine wpAny_Call_method m.base m.few m.line PySem.F.plainAttrs_dict PySem.F.slot_dict_pop PySem.F.type_dict_pop (thn (ho.run pins s σ H _ I h) fun u s1 ⟨x, H1, I1, rx, a, ep0, xs0, ex, d, q1⟩ => ?_)
  subst ex
  obtain rfl : u = Value.ref a := rx
  refine ⟨n_typeIs I1 d, n_noDict I1 d, ?_⟩
  rw [m.trees]
  refine Calls.callWith_builtin rfl (Calls.evalArgs_plain (Calls.spliced_cons (thn (he.run pins s1 σ H1 _ I1 q1) fun iv s2 ⟨y, H2, I2, ry, a', ep, xs, k, b, ex, ey, g, ks, hk, v, l, q2⟩ => Calls.spliced_nil ?_)))
  cases ex
  subst ey
  obtain rfl : iv = Value.ref b := ry
  exact n_pop hu I2 g ks hk l fun ep' w' s3 I3 rw' => ⟨v, _, I3, rw', q2 ep'⟩
end
def Itn (d : Addr) (ep : Nat) (xs : List Ent) : It :=
  ⟨fun i H => H d = some (DK d ep xs) ∧ i < xs.length, fun i H x H' => H' = H ∧ ∃ p, xs[i]? = some p ∧ x = .ref p.2.1, fun i H => H d = some (DK d ep xs) ∧ xs.length ≤ i⟩
theorem ent_get : ∀ {xs : List Ent} {es : List DictEntry} {i : Nat} {p : Ent}, Paired EntR xs es → xs[i]? = some p → ∃ e, es[i]? = some e ∧ EntR p e
  | _, _, i, p, .nil, h => by simp at h
  | _, _, 0, p, .cons r _, h => by simp at h; subst h; exact ⟨_, rfl, r⟩
  | _, _, i + 1, p, .cons _ t, h => by
    obtain ⟨e, h1, h2⟩ := ent_get (i := i) t (by simpa using h)
    exact ⟨e, by simpa using h1, h2⟩
theorem turn_n {P : Program} {w : World} {K : PySem.W.Frag} {tg : Expr} {d : Addr} {ep : Nat} {xs : List Ent} (it : Addr) : Turn P w K tg (Itn d ep xs) [it] it (fun i h => h.IsKeyIter it d i xs.length ep) where
  mem := by simp
  obj := fun i h st b hb => by
    have e : b = it := by simpa using hb
    subst e
    obtain ⟨oi, e, c, dd⟩ := st
    exact ⟨oi, e, fun v z => by rw [dd] at z; cases z⟩
  keep := fun i h h' st k => st.at fun oi e => k it (by simp) oi e
  item := by
    intro X hP hw hK hc i pins s σ H E I hf st hg
    subst hP hw hK
    obtain ⟨hd, hi⟩ := hg
    obtain ⟨f0, f1, f2, f3, f4, f5⟩ := hf it (by simp)
    obtain ⟨_, _, _, o, es, e1, e2, e3, r⟩ := DK.at I.hok hd
    have hsz : es.size = xs.length := by rw [← Array.length_toList]; exact (Paired.length r).symm
    obtain ⟨p, hp⟩ : ∃ p, xs[i]? = some p := ⟨xs[i], List.getElem?_eq_getElem hi⟩
    obtain ⟨en, hen, q1, q2, q3⟩ := ent_get r hp
    have hi' : i < es.size := by rw [hsz]; exact hi
    have hen' : es[i] = en := by
      rw [Array.getElem?_toList, Array.getElem?_eq_getElem hi'] at hen
      exact Option.some.inj hen
    have st0 : s.heap.IsKeyIter it d i es.size ep := by rw [hsz]; exact st
    refine wpAny_pyNext_keys_item_raw st0 ⟨o, e1, e2, e3⟩ hi' fun h' st' sb => ?_
    have I1 : Inv X pins σ H { s with heap := h' } := I.turned (t' := s.toks) (fun b ob hb e => (sb.2 b hb).trans e) f0 f1 f3 f4 f5
    obtain ⟨oi, e, c, dd⟩ := id st'
    refine ⟨es[i].key, rfl, go_of (s := { s with heap := h' }) e c dd (by decide) ⟨.ref p.2.1, H, I1, by rw [hen']; exact q2, ⟨rfl, p, hp, rfl⟩, by rw [← hsz]; exact st', fun b hb => (hf b hb).1⟩⟩
  done := by
    intro X hP hw hK hc i pins s σ H E I hf st hg
    subst hP hw hK
    obtain ⟨hd, hi⟩ := hg
    obtain ⟨f0, f1, f2, f3, f4, f5⟩ := hf it (by simp)
    obtain ⟨_, _, _, o, es, e1, e2, e3, r⟩ := DK.at I.hok hd
    have hsz : es.size = xs.length := by rw [← Array.length_toList]; exact (Paired.length r).symm
    have st0 : s.heap.IsKeyIter it d i es.size ep := by rw [hsz]; exact st
    exact wpAny_pyNext_keys_end_raw (I.ok.hd hc) st0 ⟨o, e1, e2, e3⟩ (by rw [hsz]; exact hi) fun h' eb => ⟨rfl, I.turned (t' := s.toks) (fun b ob hb e => eb b ob hb e) f0 f1 f3 f4 f5⟩
  self := fun A i s Q E st h => by
    refine wpAny_pyIter_slot st.typeIs F.slot_dict_keyiterator_iter (wpAny_call_entry F.slot_dict_keyiterator_iter st.typeIs F.entry_dict_keyiterator_iter ?_ (F.args_dict_keyiterator_iter_1 _))
    show wpAny _ _ (ret (.ref it)) _ _ s
    exact wpAny_pure ⟨_, rfl, "dict_keyiterator", _, st.typeIs, F.slot_dict_keyiterator_next.lookup, h⟩
def iN (td : TE) : TI := fun σ H R => td σ H fun x H1 => ∃ a ep xs, x = .ref a ∧ H1 a = some (DK a ep xs) ∧ R (Itn a ep xs) H1
theorem pi_n {X : Cx} {tg e : Expr} {td : TE} (he : PE X e td) : PI X tg e (iN td) := by
  refine ⟨fun pins s σ H R I h => ?_⟩
  refine thn (he.run pins s σ H _ I h) fun v s1 ⟨x, H1, I1, r1, a, ep, xs, ex, hd, q⟩ => ?_
  subst ex
  cases r1
  obtain ⟨hm, _, _, o, es, e1, e2, e3, r⟩ := DK.at I1.hok hd
  have hsz : es.size = xs.length := by rw [← Array.length_toList]; exact (Paired.length r).symm
  refine wpAny_pyIter_dict_raw hm ⟨o, e1, e2, e3⟩ ?_
  refine ⟨s1.heap.objs.size, [s1.heap.objs.size], _, _, H1, rfl, I1.kept (t' := s1.toks) fun b o e => Heap.get?_push_of_some _ e, turn_n s1.heap.objs.size, ⟨_, Heap.get?_push_size _ rfl, rfl, by rw [hsz]; rfl⟩, fun b hb => ?_, q⟩
  have e : b = s1.heap.objs.size := by simpa using hb
  subst e
  exact I1.fpOk (Nat.le_refl _) (I1.hok.fresh (Nat.le_refl _))
end DN
namespace DN
open PySem PySem.Spec PyProof.Rows L2
def InB (X : Cx) (scope : Scope) (P : Cx → Prop) : Prop := ∀ (s : Shared) (H : Hp) (C : Addr) (cl : List (Str × Addr)) (fp : List Addr), P (X.blk s H scope (compEnvC scope cl C X.env) fp)
def PutD (D : Addr) (Nx : Hp → Prop) (y z : V) (H : Hp) : Prop := ∃ ep xs k b, y = .ref b ∧ H D = some (DK D ep xs) ∧ KeysOk H xs ∧ KeyOk H k b ∧ xs.length < sizeLine ∧ ∀ ep', Nx (upd H D (DK D ep' (storedN xs k b z)))
def TurnD (D : Addr) (g : TG) (tt : TT) (tk tv : TE) (vs : List Nat) (σ : L2.St) (Nx : Hp → Prop) (x : V) (H : Hp) : Prop :=
  g x (wipe σ vs) H fun σ2 H2 => wipe σ2 vs = wipe σ vs ∧ tt σ2 H2 fun b H3 => if b = true then tk σ2 H3 fun y H4 => tv σ2 H4 fun z H5 => PutD D Nx y z H5 else Nx H3
def tDn (wi : TI) (g : TG) (tt : TT) (tk tv : TE) (vs : List Nat) : TE := fun σ H Q => wi σ H fun J H1 => ∀ D, H1 D = none → ∃ W : Nat → Nat → Hp → Prop, (∃ m, W 0 m (upd H1 D (DK D 0 []))) ∧
  ∀ i m H, W i m H → (J.stop i H ∧ Q (.ref D) H) ∨ (J.go i H ∧ ∃ Nx : Hp → Prop, (∀ H', Nx H' → ∃ m', m' < m ∧ W (i + 1) m' H') ∧ ∀ x H', J.yld i H x H' → TurnD D g tt tk tv vs σ Nx x H')
theorem n_dictSet {X : Cx} {pins : List (Addr × Obj)} {σ : L2.St} {H : Hp} {s : Shared} {E : Value → Shared → Prop} {D b : Addr} {ep : Nat} {xs : List Ent} {k : NestedKey} {v : V} {r : Value} {Q : Unit → Shared → Prop}
    (hu : X.A.units + 10 < cLine) (I : Inv X pins σ H s) (e : H D = some (DK D ep xs)) (ks : KeysOk H xs) (hk : KeyOk H k b) (hl : xs.length < sizeLine) (rv : RelV v r)
    (h : ∀ (ep' : Nat) s', Inv X pins σ (upd H D (DK D ep' (storedN xs k b v))) s' → Q () s') : wpAny (model X.prog X.w) X.A (dictSet D (.ref b) r) Q E s := by
  obtain ⟨z, hd, ys, rel, dd, _⟩ := dn_of I.hok e ks
  have room : (nestedKind X.prog X.w).room X.A := by show X.A.units + 8 < cLine; omega
  refine wpAny_dictSet_heap (hsz := by rw [← Paired.length rel]; exact z) room (hk.is I.hok) dd fun h' ⟨q, es, ep', hq, h2, h3, h4, _, h5⟩ hs => h ep' _ (d_write I (mut_dk e) hs ⟨q, hq⟩ (DKp.obj ?_))
  have rel' := stored_env rel k b rv
  exact ⟨hd, by have := stored_len xs k b v; omega, by rw [← env_keys rel']; exact h5, q, es, hq, h2, h3, by rw [h4]; exact vals_ent (stored_keys (v := v) ks hk).plain rel'⟩
theorem new_dk {h : Heap} (hb : sysModules < h.objs.size) : DKp h.objs.size 0 [] (h.push { cls := .type "dict", data := .dict #[] }) :=
  ⟨beq_eq_false_iff_ne.mpr (Ne.symm (Nat.ne_of_lt hb)), Nat.zero_le _, List.nodup_nil, _, #[], Heap.get?_push_size _ rfl, ⟨rfl, rfl, rfl⟩, rfl, .nil⟩
section
variable {X : Cx} {kx vx tg iter : Expr} {ifs : List Expr} {scope : Scope} {own : List (Str × Nat)} {pos pos' : Pos} {wi : TI} {g : TG} {tt : TT} {tk tv : TE}
structure Pts (X : Cx) (kx vx tg iter : Expr) (ifs : List Expr) (scope : Scope) (own : List (Str × Nat)) (wi : TI) (g : TG) (tt : TT) (tk tv : TE) : Prop where
  calm : X.calm = true
  nd : X.N.Nodup
  it : PI X tg iter wi
  ok : BlkOk X.N X.env.scope scope own
  tg : InB X scope fun X' => PG X' tg g
  ts : InB X scope fun X' => PTs X' ifs tt
  ky : InB X scope fun X' => PE X' kx tk
  vl : InB X scope fun X' => PE X' vx tv
  st : ∀ x, foldedSetIterable iter X.env x = pure x
  hu : X.A.units + 10 < cLine
theorem dn_core {pins : List (Addr × Obj)} {s : Shared} {σ : L2.St} {H : Hp} {Q : VK} {use : Option (Value → Sem Unit)} {Qf : Value → Shared → Prop} (p : Pts X kx vx tg iter ifs scope own wi g tt tk tv) (I : Inv X pins σ H s) (h : tDn wi g tt tk tv (own.map (·.2)) σ H Q)
    (fin : ∀ D C s' m H', Inv X pins σ H' s' → Q (.ref D) H' → s'.heap.Ns C m → FpOk X pins H' C → compPost (model X.prog X.w) X.A X.xe use Qf (.ref D) C (.ok .next) s') :
    wpAny (model X.prog X.w) X.A (comprehension (.DictComp kx vx [⟨tg, iter, ifs, 0⟩] scope pos) scope X.env pos' newDict false (eval iter X.env) use) Qf X.xe s := by
  have cells : ∀ y ∈ scope.names, y.2 = .free → ∃ c, X.env.cells.lookup y.1 = some c := fun y hy e => (p.ok.free y hy e).elim (fun k => I.ok.has _ (.inl k)) fun k => I.ok.has _ (.inr k)
  refine wpAny_comprehension_free (use := use) rfl p.st (closure_ok cells) p.ok.kind (fun y hy e => by rw [p.ok.uniq y hy, e]) (thn (p.it.run pins s σ H _ I h) fun xv s1 hx => thn hx fun itv s2 ⟨it, fp, tn, J, H2, e, I2, T, st2, f2, q⟩ => ?_)
  subst e
  refine wpAny_newObj_type (newEnv_comp ?_)
  generalize hD : s2.heap.objs.size = D
  have le : s2.heap.objs.size ≤ D := Nat.le_of_eq hD
  obtain ⟨W, ⟨m0, w0⟩, turn⟩ := q D (I2.hok.fresh le)
  generalize hs3 : ({ s2 with heap := s2.heap.push { cls := .type "dict", data := .dict #[] } } : Shared) = s3
  have h3 : s3.heap = s2.heap.push { cls := .type "dict", data := .dict #[] } := by rw [← hs3]
  have I3 : Inv X pins σ (upd H2 D (DK D 0 [])) s3 := by
    rw [← hs3]
    exact I2.laid (t' := s2.toks) (fun b o e => Heap.get?_push_of_some _ e) le (by rw [← hD]; exact (new_dk I2.big).obj)
  have f3 : ∀ b ∈ fp, FpOk X pins (upd H2 D (DK D 0 [])) b ∧ b < s3.heap.objs.size := fun b hb => by
    obtain ⟨o, e, _⟩ := T.obj _ _ st2 b hb
    have lt := Heap.lt_size e
    exact ⟨⟨by rw [upd_ne (by rw [← hD]; exact Nat.ne_of_lt lt)]; exact (f2 b hb).1, (f2 b hb).2⟩, by rw [h3, Heap.size_push]; exact Nat.lt_succ_of_lt lt⟩
  have st3 : tn 0 s3.heap := T.keep _ _ _ st2 fun b _ o e => by rw [h3]; exact Heap.get?_push_of_some _ e
  have I4 := block_start I3 p.ok p.nd f3
  let ce := compEnvC scope (cellsFrom (s3.heap.objs.size + 1) scope.names (cloFrom X.env.cells scope.names [])) s3.heap.objs.size X.env
  let Y := X.blk s3 (upd H2 D (DK D 0 [])) scope ce fp
  have pg : PG Y tg g := p.tg ..
  have pt : PTs Y ifs tt := p.ts ..
  have pk : PE Y kx tk := p.ky ..
  have pv : PE Y vx tv := p.vl ..
  have n0 : ∀ b ∈ fp, (upd H2 D (DK D 0 [])) b = none := fun b hb => (f3 b hb).1.1
  generalize hs4 : ({ s3 with heap := pushCells (s3.heap.push { cls := .type "dict", data := .dict #[] }) scope.names } : Shared) = s4 at I4 ⊢
  have st4 : tn 0 s4.heap := T.keep _ _ _ st3 fun b _ o e => by rw [← hs4]; exact pushCells_keeps _ _ _ _ (Heap.get?_push_of_some _ e)
  have fpo : ∀ {σ' : L2.St} {H' : Hp} {s' : Shared}, Inv Y [] σ' H' s' → (∀ b ∈ fp, H' b = none) → ∀ b ∈ fp, FpOk Y [] H' b := fun {σ' H' s'} I' hn b hb =>
    ⟨hn b hb, (I'.ok.exf b hb).1, I'.ok.exfs b hb, .inl hb, fun x c e => (I'.ok.exf b hb).2 x c e, fun q hq => absurd (show q ∈ ([] : List (Addr × Obj)) ++ [] from hq) (by simp)⟩
  let Lv : Nat → Shared → Prop := fun n s' => ∃ i H', Inv Y [] (wipe σ (own.map (·.2))) H' s' ∧ tn i s'.heap ∧ (∀ b ∈ fp, H' b = none) ∧ W i n H'
  have loop : codeAny (model X.prog X.w) X.A (.compLoop (.DictComp kx vx [⟨tg, iter, ifs, 0⟩] scope pos) 0 (.ref it) (.ref D) ce) (compPost (model X.prog X.w) X.A X.xe use Qf (.ref D) s3.heap.objs.size) s4 := by
    refine compLoop_anyD Lv (fun n s5 ⟨i, H5, I5, st5, n5, w5⟩ => ?_) m0 ⟨0, _, I4, st4, n0, w0⟩
    rcases turn i n H5 w5 with ⟨stop, qq⟩ | ⟨go, Nx, hNx, step⟩
    · refine thnF (T.done Y rfl rfl rfl p.calm i [] s5 _ H5 (fun _ _ => False) I5 (fpo I5 n5) st5 stop) fun r s6 ⟨hr, I6⟩ => ?_
      subst hr
      have I7 : Inv X pins σ H5 s6 := I3.call' (ch := fp) I6.os I6.base I6.hok I6.bare fun b hb => let z := (f3 b hb).1.2; ⟨z.2.2.1, z.1, z.2.2.2.1, z.2.2.2.2⟩
      obtain ⟨m, hn, _⟩ := I6.loc
      exact fin D _ s6 m H5 I7 qq hn (I3.fpOk (Nat.le_refl _) I6.free)
    · refine thnF (T.item Y rfl rfl rfl p.calm i [] s5 _ H5 (fun _ _ => False) I5 (fpo I5 n5) st5 go) fun r s6 ⟨u, hr, h6⟩ => ?_
      subst hr
      refine thnF h6 fun _ s7 ⟨x, H7, I7, r7, y7, st7, n7⟩ => ?_
      refine thnF (pg.run _ s7 _ H7 x u _ (I7.pinned (fpo I7 n7) (T.obj _ _ st7)) r7 (step x H7 y7)) fun _ s8 ⟨σ8, H8, I8, hw8, q8⟩ => ?_
      refine thnF (pt.run _ s8 σ8 H8 _ I8 q8) fun b s9 ⟨H9, I9, q9⟩ => ?_
      have back : ∀ {s' : Shared} {H' : Hp}, Inv Y ([] ++ pinsAt fp s7.heap) σ8 H' s' → Nx H' → ∃ m, m < n ∧ Lv m s' := fun {s' H'} I' nx => by
        obtain ⟨m', hm, w'⟩ := hNx H' nx
        have pin' : ∀ b ∈ fp, ∀ o, s7.heap.get? b = some o → s'.heap.get? b = some o ∧ H' b = none := fun b hb o e => by
          have z := I'.pin (b, o) (List.mem_append_right _ (List.mem_append_right _ (mem_pinsAt hb e)))
          exact ⟨z.1, z.2.1⟩
        refine ⟨m', hm, i + 1, H', (I'.unpinned (pins := [])).weak (by rw [← hw8, wipe_length]) fun j v e => (wipe_some (by rw [hw8]; exact e)).1, T.keep _ _ _ st7 fun b hb o e => (pin' b hb o e).1, fun b hb => ?_, w'⟩
        obtain ⟨o, e, _⟩ := T.obj _ _ st7 b hb
        exact (pin' b hb o e).2
      cases b with
      | false => exact back I9 (by simpa using q9)
      | true =>
        simp only [if_true] at q9 ⊢
        refine thnF (pk.run _ s9 σ8 H9 _ I9 q9) fun z s10 ⟨yk, H10, I10, r10, q10⟩ => thnF (pv.run _ s10 σ8 H10 _ I10 q10) fun z2 s11 ⟨yv, H11, I11, r11, ep, xs, k, b, ek, hD11, ks, hk, hz, nx⟩ => ?_
        subst ek
        obtain rfl : z = Value.ref b := r10
        exact n_dictSet (X := Y) p.hu I11 hD11 ks hk hz r11 fun ep' s12 I12 => back I12 (nx ep')
  exact codeAny_compStart_dict loop (T.self X.A 0 _ _ _ st4 loop)
theorem pe_dn (p : Pts X kx vx tg iter ifs scope own wi g tt tk tv) : PE X (.DictComp kx vx [⟨tg, iter, ifs, 0⟩] scope pos) (tDn wi g tt tk tv (own.map (·.2))) := ⟨fun pins s σ H Q I h => by
  rw [arm_eval_DictComp]
  exact dn_core p I h fun D C s' m H' I' q hn ⟨f0, f1, f2, f3, f4, f5⟩ => ⟨m, hn, fun h'' sb => ⟨.ref D, H', I'.turned (t' := s'.toks) (fun b o hb e => (sb.2 b hb).trans e) f0 f1 f3 f4 f5, rfl, q⟩⟩⟩
theorem ps_dn {i : Nat} {y : Str} {py spos : Pos} (p : Pts X kx vx tg iter ifs scope own wi g tt tk tv) (hy : X.N[i]? = some y) (hyl : X.env.scope.names.lookup y = some .local) (hsw : swapsWith (.DictComp kx vx [⟨tg, iter, ifs, 0⟩] scope pos) (some (.Name y py)) spos.line X.env = pure true) :
    PS X (.Assign [.Name y py] (.DictComp kx vx [⟨tg, iter, ifs, 0⟩] scope pos) spos) (tAsg (tDn wi g tt tk tv (own.map (·.2))) (gName i)) := ⟨fun pins s σ H Dn I h => by
  rw [exec_Assign_Name_used _ _ _ _ hsw]
  refine wpAny_bind (wpAny_standAt (wpAny_bind ?_))
  show wpAny _ X.A (do let _ ← comprehension (.DictComp kx vx [⟨tg, iter, ifs, 0⟩] scope pos) scope X.env (firstIterPos [⟨tg, iter, ifs, 0⟩] pos) newDict false (eval iter X.env) (some (assign (.Name y py) X.env))) _ _ s
  have h' : tDn wi g tt tk tv (own.map (·.2)) σ H (fun x H1 => gName i x σ H1 Dn.nx) := h
  refine wpAny_bind (thn (dn_core (Qf := fun _ s' => SP X pins Dn .next s') p I h' fun L C s' m H' I' q hn ⟨f0, f1, f2, f3, f4, f5⟩ => ?_) fun _ s' hq => wpAny_pure (wpAny_pure hq))
  show wpAny _ _ (assign (.Name y py) X.env (.ref L)) _ _ _
  refine wpAny_assign_Name (store_ok2 (v := V.ref L) I' p.nd hy (.inl hyl) rfl (fun s2 I2 ⟨a, sb, ha⟩ => ?_) (.inr hyl))
  have haC : C ≠ a := ha.elim (fun z => by rw [z]; exact f1) fun z e => f4 y a z e.symm
  exact ⟨m, hn.sameBut sb haC, fun h3 sb3 => ⟨_, H', I2.turned (t' := s2.toks) (fun b o hb e => (sb3.2 b hb).trans e) f0 f1 f3 f4 f5, q⟩⟩⟩
end
end DN
namespace TN
open PySem PySem.Spec PyProof.Rows L2
def NewT (Q : VK) (H : Hp) (xs : List V) : Prop := ∀ (p : Addr) (o : Obj), H p = none → o.dict = none → Q (.ref p) (upd H p (.frz o (.tup xs)))
section
variable {X : Cx} {pins : List (Addr × Obj)} {σ : L2.St} {H : Hp} {s : Shared} {Q : VK}
theorem ep_new {xs : List V} {its : List Value} {n t' : Nat} (I : Inv X pins σ H s) (rv : Vals xs its) (hz : xs.length ≤ sizeLine) (q : NewT Q H xs) :
    EP X pins σ Q (.ref s.heap.objs.size) { s with heap := s.heap.push { cls := .type "tuple", data := .seq its.toArray n }, toks := t' } := by
  have at' : (s.heap.push { cls := .type "tuple", data := .seq its.toArray n }).get? s.heap.objs.size = some { cls := .type "tuple", data := .seq its.toArray n } := Heap.get?_push_size _ rfl
  refine ⟨.ref s.heap.objs.size, upd H s.heap.objs.size (.frz { cls := .type "tuple", data := .seq its.toArray n } (.tup xs)), ?_, rfl, q _ _ (I.hok.fresh (Nat.le_refl _)) rfl⟩
  refine I.laid (t' := t') (fun b u e => Heap.get?_push_of_some _ e) (Nat.le_refl _) ?_
  exact ⟨at', hz, its, rv, ⟨_, at', rfl, n, rfl⟩⟩
variable {e a : Expr} {es : List Expr} {te : TE} {t : TA} {pos p : Pos}
def tTupN (t : TA) : TE := fun σ H Q => t σ H fun xs H1 => xs.length ≤ sizeLine ∧ NewT Q H1 xs
theorem pe_tupN {k : Nat} (h : PA X es t) : PE X (.Tuple es k pos) (tTupN t) :=
  ⟨fun pins s σ H Q I hq => wpAny_Tuple_spliced (thn (h.run pos pins s σ H _ I hq) fun us s1 ⟨xs, H1, I1, r, z, q⟩ => ⟨by rw [← r.length]; exact z, ep_new I1 r z q⟩)⟩
def rCatN (K : PySem.W.Frag) : R2 := fun x y H Q => ∃ a b xs ys, x = .ref a ∧ y = .ref b ∧ SqT K H a xs ∧ SqT K H b ys ∧ xs.length + ys.length ≤ sizeLine ∧
  (xs = [] → Q (.ref b) H) ∧ (ys = [] → Q (.ref a) H) ∧ NewT Q H (xs ++ ys)
theorem op_catN : OpR X (binaryOp .Add) (rCatN X.K) := fun pins s σ H x y v u Q I rx ry h => by
  obtain ⟨a, b, xs, ys, ex, ey, ha, hb, hz, q0, q1, q2⟩ := h
  subst ex ey
  cases rx
  cases ry
  obtain ⟨its, r1, p1, _⟩ := I.tuple ha
  obtain ⟨its2, r2, p2, _⟩ := I.tuple hb
  by_cases hx : xs = []
  · subst hx
    cases r1
    exact cat_tup0 p1 p2 ⟨.ref b, H, I, rfl, q0 rfl⟩
  · refine HT.cat_tup p1 p2 (fun z => hx (r1.nil_iff.mp z)) (fun z => ⟨.ref a, H, I, rfl, q1 (r2.nil_iff.mp z)⟩) (fun _ => ?_) (by rw [← r1.length, ← r2.length]; exact hz)
    exact ep_new (t' := s.toks) I (r1.append r2) (by rw [List.length_append]; exact hz) q2
def rSlN (K : PySem.W.Frag) : V → Option Int → Option Int → Hp → VK → Prop := fun x lo hi H Q => ∃ a xs, x = .ref a ∧ SqT K H a xs ∧
  (HT.sIx xs.length 0 lo = 0 ∧ HT.sIx xs.length xs.length hi = xs.length → Q (.ref a) H) ∧ NewT Q H (cutV xs lo hi)
theorem sl_tupN : SlR X (rSlN X.K) := fun pins s σ H x v vl vu lo hi sl Q I rx hs pl pu h => by
  obtain ⟨a, xs, ex, hx, q1, q2⟩ := h
  subst ex
  cases rx
  obtain ⟨its, r, ht, hz⟩ := I.tuple hx
  have hl : its.toArray.size = xs.length := (List.size_toArray ..).trans r.length.symm
  refine ⟨"tuple", _, PyProof.Rows.slot_tuple_getitem.lookup, ht.typeIs, ?_⟩
  by_cases hw : HT.sIx xs.length 0 lo = 0 ∧ HT.sIx xs.length xs.length hi = xs.length
  · exact getItem_tuple_whole ht hs pl pu (hl ▸ hw) ⟨.ref a, H, I, rfl, q1 hw⟩
  · refine HT.getItem_tuple_cut ht hs pl pu (hl ▸ hw) ?_ (hl ▸ hz)
    rw [hl]
    exact ep_new (t' := s.toks) I ((r.drop _).take _) (Nat.le_trans (cutV_length xs lo hi) hz) q2
def rRepN (K : PySem.W.Frag) : R2 := fun x y H Q => ∃ l k xs, x = .ref l ∧ y = .int k ∧ SqT K H l xs ∧ xs ≠ [] ∧ 2 ≤ k ∧ k ≤ 1000 ∧ xs.length ≤ 1000 ∧ NewT Q H (List.replicate k.toNat xs).flatten
theorem op_repN : OpR X (binaryOp .Mult) (rRepN X.K) := fun pins s σ H x y v u Q I rx ry h => by
  obtain ⟨l, k, xs, ex, ey, hT, hne, h1, h2, hz, q⟩ := h
  subst ex ey
  cases rx
  obtain ⟨t, rfl⟩ := ry
  obtain ⟨its, r, ⟨⟨cls, dd, data, sl⟩, ho, hc, n, hd⟩, _⟩ := I.tuple hT
  dsimp only at hc hd
  subst hc hd
  have hle : its.length = xs.length := r.length.symm
  have hi : its.toArray.isEmpty = false := by
    cases its with
    | nil => cases r; exact absurd rfl hne
    | cons a b => rfl
  have hs0 : its.toArray.size = xs.length := by rw [List.size_toArray, hle]
  have hm : ((its.toArray.size : Nat) : Int) * k ≤ 1000000 := by
    rw [hs0]
    exact Int.le_trans (Int.mul_le_mul_of_nonneg_right (show ((xs.length : Nat) : Int) ≤ 1000 by omega) (by omega)) (by omega)
  have fl : k.toNat * xs.length ≤ 1000 * 1000 := Nat.mul_le_mul (by omega) hz
  have c1 : (its.toArray.isEmpty || k == 1) = false := by rw [hi, Bool.false_or]; exact beq_eq_false_iff_ne.mpr (by omega)
  have c2 : (decide (k ≤ 0) || its.toArray.isEmpty) = false := by rw [hi, Bool.or_false]; exact decide_eq_false (by omega)
  have c4 : Builtin.Tuple.tupleTooMany (((its.toArray.size : Nat) : Int) * k) = false := by
    unfold Builtin.Tuple.tupleTooMany
    exact decide_eq_false (by rw [sizeLine_eq]; omega)
  have cl : (List.replicate k.toNat its).flatten.length ≤ sizeLine := by rw [PyProof.Rows.lm_len_rep_flat, hle, sizeLine_eq]; omega
  have mul := tuple_mulW l its.toArray n dd sl k t (by rw [decide_eq_false (by omega), decide_eq_false (by omega)] <;> rfl) c1 c2 (by omega) c4 (by rw [size_rep, List.size_toArray]; exact cl)
  refine wpAny_binaryOp_repeat_ref (T := "tuple") (U := "int") (by decide) ⟨_, ho, rfl⟩ (fun s' => typeIs_int s' k t) noFill_tuple_mul F.fills_int_mul F.slot_int_rmul repeat_tuple F.slot_int_index.lookup ?_
  refine call_meets F.slot_int_rmul (typeIs_int s k t) F.entry_int_rmul (F.args_int_rmul_2 _ _) (int_rmul_tuple k t l its.toArray n dd sl) ⟨ho, rfl, ⟨_, ho, rfl⟩, ?_⟩
  refine call_meets F.slot_tuple_mul ⟨_, ho, rfl⟩ F.entry_tuple_mul (F.args_tuple_mul_2 _ _) mul ⟨ho, ?_⟩
  rw [size_rep]
  exact ep_new (t' := s.toks) I (r.rep k.toNat) (by rw [PyProof.Rows.lm_len_rep_flat, sizeLine_eq]; omega) q
theorem call_tupleN : CallR X (.type "tuple") (fun xs H Q => ∃ p ys, xs = [.ref p] ∧ ((SqL X.K H p ys ∧ NewT Q H ys) ∨ (SqT X.K H p ys ∧ Q (.ref p) H))) := fun pins s σ H xs us Q I r h => by
  obtain ⟨p, ys, ex, h⟩ := h
  subst ex
  obtain ⟨u, rfl, rx⟩ := vals1 r
  cases rx
  rcases h with ⟨hq, q⟩ | ⟨hq, q⟩
  · obtain ⟨its, r', pl, hz⟩ := I.list hq
    refine call_tuple_list pl.isList (fun h' kp => ?_) (by rw [List.size_toArray, ← r'.length]; exact hz)
    exact ep_new (t' := s.toks) (I.kept (t' := s.toks) kp : Inv X pins σ H { s with heap := h' }) r' hz q
  · obtain ⟨its, _, pl, _⟩ := I.tuple hq
    exact call_tuple_same pl ⟨.ref p, H, I, rfl, q⟩
def tTupRgN (te : L2.St → Hp → (Int → Int → Hp → Prop) → Prop) : TE := fun σ H Q => te σ H fun a b H1 => RgOk a b ∧ NewT Q H1 (rgV a b)
theorem pe_tupRgN {te : L2.St → Hp → (Int → Int → Hp → Prop) → Prop} (hc : X.calm = true) (hg : Gl X "tuple") (hm : X.mg "tuple" = none) (he : PRg X e te) (na : starEach [e] X.env = (false, eval e X.env) :: starEach [] X.env) : PE X (.Call (.Name "tuple" p) [e] [] pos) (tTupRgN te) := by
  refine ⟨fun pins s σ H Q I h => Call_ (ld_blt I hg hm boot_tuple (PyProof.Rows.callWith_type1 (args_cons (thn (he pins s σ H _ I h) fun x s1 y => args_nil ?_) na) na))⟩
  obtain ⟨r, a, b, t, u, v, H1, ex, hr, I1, ⟨b1, b2, b3, b4, b5⟩, q⟩ := y
  subst ex
  refine call_tuple_range (n := (b - a).toNat) (I1.ok.hd hc) hr (small_one b1 b2 b3 b4) (rangeSize_nat a b) b5 fun h' tk acc hk hi => ?_
  have z := ep_new (n := 0) (t' := tk) (Q := Q) (I1.kept hk : Inv X pins σ H1 { s1 with heap := h', toks := tk }) (vals_rg hi) (by rw [rgV_length, sizeLine_eq]; omega) q
  rw [Array.toArray_toList] at z
  exact z
end
end TN
namespace PF
open PySem PySem.Spec PyProof.Rows L2
abbrev D := PyData
abbrev St := L2.St
mutual
def keyD : D → Option NestedKey
  | .none => some .none
  | .int i => some (.num i)
  | .tuple ds => (keysD ds).map .tup
  | _ => none
def keysD : List D → Option (List NestedKey)
  | [] => some []
  | d :: ds => (keyD d).bind fun k => (keysD ds).map fun ks => k :: ks
end
def keyT : D → Option NestedKey
  | .tuple ds => (keyD (.tuple ds)).bind fun k => if k.depth ≤ 8 then some k else none
  | _ => none
def dicD (kvs : List (D × D)) : D := .dict ((.bool true, .none) :: kvs)
def TupG (G : Hp) (a : Addr) (xs : List V) : Prop := ∃ o : Obj, G a = some (.frz o (.tup xs)) ∧ o.dict = none
theorem TupG.rd {G : Hp} {a : Addr} {xs : List V} (h : TupG G a xs) : Rd G a (.tup xs) := let ⟨o, e, _⟩ := h; .inr ⟨o, e⟩
def ScrOk (K : PySem.W.Frag) (G : Hp) (a : Addr) (xs : List V) : Prop := (∃ o, G a = some (.frz o (.lst xs))) ∨
    ∃ (o : Obj) (its : Array Value) (n : Nat), K.lookup a = some o ∧ o.cls = .type "list" ∧ o.dict = none ∧ o.data = .seq its n ∧ its.size ≤ sizeLine ∧ Vals xs its.toList
theorem ScrOk.sq {K : PySem.W.Frag} {G : Hp} {a : Addr} {xs : List V} (h : ScrOk K G a xs) : SqL K G a xs := h.elim (fun h => .inl (.inr h)) .inr
theorem ScrOk.mono {K : PySem.W.Frag} {G G' : Hp} {a : Addr} {xs : List V} (e : Same G G') (h : ScrOk K G a xs) : ScrOk K G' a xs := h.elim (fun ⟨o, h⟩ => .inl ⟨o, e _ _ h⟩) .inr
def holD : D := .dict [(.int 0, .none)]
mutual
inductive Rp (K : PySem.W.Frag) (G : Hp) : V → D → Prop
  | non : Rp K G .non .none
  | bl (b : Bool) : Rp K G (.bl b) (.bool b)
  | int (i : Int) : Rp K G (.int i) (.int i)
  | str (x : Str) : Rp K G (.str x) (.str x)
  | lst {a : Addr} {xs : List V} {ds : List D} : G a = some (.lst xs) → RpAll K G xs ds → Rp K G (.ref a) (.list ds)
  | tup {a : Addr} {xs : List V} {ds : List D} : TupG G a xs → RpAll K G xs ds → Rp K G (.ref a) (.tuple ds)
    | scr {a : Addr} {ns : List Int} : ScrOk K G a (ns.map V.int) → Rp K G (.ref a) (.dict ((.list [], .none) :: ns.map fun n => (PyData.int n, PyData.none)))
  | dic {a : Addr} {ep : Nat} {xs : List DN.Ent} {kvs : List (D × D)} : G a = some (DN.DK a ep xs) → RpKV K G xs kvs → Rp K G (.ref a) (.dict ((.bool true, .none) :: kvs))
    | wtp {a : Addr} : (∀ H, SqT K H a []) → Rp K G (.ref a) (.dict [(.tuple [], .none)])
    | hol {v : V} : v ≠ .non → Rp K G v (.dict [(.int 0, .none)])
    | exc {a b : Addr} {fs : List (Str × V)} {ds : List (D × D)} : G b = some (.xd fs) → RpF K G fs ds → Rp K G (.ref a) (.dict ((.int 1, .int (a : Nat)) :: (.int 2, .int (b : Nat)) :: ds))
inductive RpAll (K : PySem.W.Frag) (G : Hp) : List V → List D → Prop
  | nil : RpAll K G [] []
  | cons {v : V} {vs : List V} {d : D} {ds : List D} : Rp K G v d → RpAll K G vs ds → RpAll K G (v :: vs) (d :: ds)
inductive RpF (K : PySem.W.Frag) (G : Hp) : List (Str × V) → List (D × D) → Prop
  | nil : RpF K G [] []
  | cons {f : Str} {v : V} {fs : List (Str × V)} {d : D} {ds : List (D × D)} : Rp K G v d → RpF K G fs ds → RpF K G ((f, v) :: fs) ((.str f, d) :: ds)
inductive RpKV (K : PySem.W.Frag) (G : Hp) : List DN.Ent → List (D × D) → Prop
  | nil : RpKV K G [] []
  | cons {k : NestedKey} {b : Addr} {v : V} {xs : List DN.Ent} {d e : D} {kvs : List (D × D)} : keyT d = some k → Rp K G (.ref b) d → Rp K G v e → RpKV K G xs kvs → RpKV K G ((k, b, v) :: xs) ((d, e) :: kvs)
end
section
variable {K : PySem.W.Frag} {G G' H H' H0 G0 : Hp}
theorem rdM {a : Addr} {u : HO} (e : Same H H') (h : Rd H a u) : Rd H' a u := by
  rcases h with h | ⟨o, h⟩
  · exact .inl (e _ _ h)
  · exact .inr ⟨o, e _ _ h⟩
theorem tgM {a : Addr} {xs : List V} (e : Same H H') (h : TupG H a xs) : TupG H' a xs := let ⟨o, h1, h2⟩ := h; ⟨o, e _ _ h1, h2⟩
mutual
theorem Rp.mono (e : Same G G') : ∀ {v : V} {d : D}, Rp K G v d → Rp K G' v d
  | _, _, .non => .non
  | _, _, .bl b => .bl b
  | _, _, .int i => .int i
  | _, _, .str x => .str x
  | _, _, .lst h r => .lst (e _ _ h) (RpAll.mono e r)
  | _, _, .tup h r => .tup (tgM e h) (RpAll.mono e r)
  | _, _, .scr h => .scr (ScrOk.mono e h)
  | _, _, .dic h r => .dic (e _ _ h) (RpKV.mono e r)
  | _, _, .wtp h => .wtp h
  | _, _, .hol h => .hol h
  | _, _, .exc h r => .exc (e _ _ h) (RpF.mono e r)
theorem RpAll.mono (e : Same G G') : ∀ {vs : List V} {ds : List D}, RpAll K G vs ds → RpAll K G' vs ds
  | _, _, .nil => .nil
  | _, _, .cons a b => .cons (Rp.mono e a) (RpAll.mono e b)
theorem RpF.mono (e : Same G G') : ∀ {xs : List (Str × V)} {ds : List (D × D)}, RpF K G xs ds → RpF K G' xs ds
  | _, _, .nil => .nil
  | _, _, .cons a b => .cons (Rp.mono e a) (RpF.mono e b)
theorem RpKV.mono (e : Same G G') : ∀ {xs : List DN.Ent} {kvs : List (D × D)}, RpKV K G xs kvs → RpKV K G' xs kvs
  | _, _, .nil => .nil
  | _, _, .cons h a b c => .cons h (Rp.mono e a) (Rp.mono e b) (RpKV.mono e c)
end
mutual
theorem Rp.dp : ∀ {v : V} {d : D}, d.canLay0 = true → Rp K G v d → Dp K G v d
  | _, _, _, .non => .non
  | _, _, _, .bl b => .bl b
  | _, _, _, .int i => .int i
  | _, _, _, .str x => .str x
  | _, _, hc, .lst h r => .lst (.inl (.inl h)) (RpAll.dp (by simpa [PyData.canLay0] using hc) r)
  | _, _, hc, .tup h r => .tup (.inl h.rd) (RpAll.dp (by simpa [PyData.canLay0] using hc) r)
  | _, _, hc, .scr _ => by simp [PyData.canLay0] at hc
  | _, _, hc, .dic _ _ => by simp [PyData.canLay0] at hc
  | _, _, hc, .wtp _ => by simp [PyData.canLay0] at hc
  | _, _, hc, .hol _ => by simp [PyData.canLay0] at hc
  | _, _, hc, .exc _ _ => by simp [PyData.canLay0] at hc
theorem RpAll.dp : ∀ {vs : List V} {ds : List D}, PyData.canLayAll0 ds = true → RpAll K G vs ds → DpAll K G vs ds
  | _, _, _, .nil => .nil
  | _, _, hc, .cons a b => .cons (Rp.dp (by simp [PyData.canLayAll0] at hc; exact hc.1) a) (RpAll.dp (by simp [PyData.canLayAll0] at hc; exact hc.2) b)
end
theorem RpAll.length : ∀ {vs : List V} {ds : List D}, RpAll K G vs ds → vs.length = ds.length
  | _, _, .nil => rfl
  | _, _, .cons _ t => by simp [RpAll.length t]
theorem RpAll.get : ∀ {vs : List V} {ds : List D}, RpAll K G vs ds → ∀ (i : Nat) {d : D}, ds[i]? = some d → ∃ v, vs[i]? = some v ∧ Rp K G v d
  | _, _, .nil, i, d, e => by simp at e
  | _, _, .cons r _, 0, d, e => by simp at e; subst e; exact ⟨_, rfl, r⟩
  | _, _, .cons _ t, i + 1, d, e => by
    obtain ⟨v, h1, h2⟩ := RpAll.get t i (by simpa using e)
    exact ⟨v, by simpa using h1, h2⟩
theorem RpAll.getV : ∀ {vs : List V} {ds : List D}, RpAll K G vs ds → ∀ (i : Nat) {v : V}, vs[i]? = some v → ∃ d, ds[i]? = some d ∧ Rp K G v d
  | _, _, .nil, i, d, e => by simp at e
  | _, _, .cons r _, 0, d, e => by simp at e; subst e; exact ⟨_, rfl, r⟩
  | _, _, .cons _ t, i + 1, d, e => by
    obtain ⟨v, h1, h2⟩ := RpAll.getV t i (by simpa using e)
    exact ⟨v, by simpa using h1, h2⟩
theorem RpAll.append : ∀ {vs ws : List V} {ds es : List D}, RpAll K G vs ds → RpAll K G ws es → RpAll K G (vs ++ ws) (ds ++ es)
  | _, _, _, _, .nil, s => s
  | _, _, _, _, .cons r t, s => .cons r (RpAll.append t s)
theorem RpAll.take : ∀ {vs : List V} {ds : List D} (n : Nat), RpAll K G vs ds → RpAll K G (vs.take n) (ds.take n)
  | _, _, 0, _ => .nil
  | _, _, _ + 1, .nil => .nil
  | _, _, n + 1, .cons r t => .cons r (RpAll.take n t)
theorem RpAll.drop : ∀ {vs : List V} {ds : List D} (n : Nat), RpAll K G vs ds → RpAll K G (vs.drop n) (ds.drop n)
  | _, _, 0, r => r
  | _, _, _ + 1, .nil => .nil
  | _, _, n + 1, .cons _ t => RpAll.drop n t
theorem RpAll.set {v : V} {d : D} (r : Rp K G v d) : ∀ {vs : List V} {ds : List D} (i : Nat), RpAll K G vs ds → RpAll K G (vs.set i v) (ds.set i d)
  | _, _, _, .nil => .nil
  | _, _, 0, .cons _ t => .cons r t
  | _, _, i + 1, .cons q t => .cons q (RpAll.set r i t)
theorem RpAll.reverse : ∀ {vs : List V} {ds : List D}, RpAll K G vs ds → RpAll K G vs.reverse ds.reverse
  | _, _, .nil => .nil
  | _, _, .cons r t => by
    rw [List.reverse_cons, List.reverse_cons]
    exact (RpAll.reverse t).append (.cons r .nil)
theorem RpAll.eraseIdx : ∀ {vs : List V} {ds : List D} (i : Nat), RpAll K G vs ds → RpAll K G (vs.eraseIdx i) (ds.eraseIdx i)
  | _, _, _, .nil => .nil
  | _, _, 0, .cons _ t => t
  | _, _, i + 1, .cons q t => .cons q (RpAll.eraseIdx i t)
theorem RpAll.dropLast : ∀ {vs : List V} {ds : List D}, RpAll K G vs ds → RpAll K G vs.dropLast ds.dropLast := fun {vs ds} h => by
  rw [List.dropLast_eq_take, List.dropLast_eq_take, h.length]
  exact h.take _
theorem RpAll.rep : ∀ {vs : List V} {ds : List D}, RpAll K G vs ds → ∀ n : Nat, RpAll K G (List.replicate n vs).flatten (List.replicate n ds).flatten := fun {vs ds} h n => by
  induction n with
  | zero => exact .nil
  | succ n ih =>
    rw [List.replicate_succ, List.replicate_succ, List.flatten_cons, List.flatten_cons]
    exact h.append ih
theorem rpAll_ints : ∀ (ns : List Int), RpAll K G (ns.map V.int) (ns.map PyData.int)
  | [] => .nil
  | n :: r => .cons (.int n) (rpAll_ints r)
theorem RpAll.ints : ∀ {ns : List Int} {vs : List V}, RpAll K G vs (ns.map PyData.int) → vs = ns.map V.int
  | [], _, .nil => rfl
  | n :: r, _, .cons h t => by
    cases h
    rw [RpAll.ints (ns := r) t]
    rfl
theorem RpAll.bools : ∀ {ns : List Bool} {vs : List V}, RpAll K G vs (ns.map PyData.bool) → vs = ns.map V.bl
  | [], _, .nil => rfl
  | n :: r, _, .cons h t => by
    cases h
    rw [RpAll.bools (ns := r) t]
    rfl
def NT (o : HO) : Prop := ∀ ps, o ≠ .tbl ps
def lamDefs : List Str := ["longest_run", "guild_of_trade", "guild_of_net"]
def lamQ (n : Str) : Str := (n ++ ".<locals>.") ++ "<lambda>"
def lamAd (K : PySem.W.Frag) (n : Str) : Addr × Addr := He.cT K (n, none)
def lamRaw (K : PySem.W.Frag) : List (Addr × Str) := (lamDefs.filter fun n => PySem.W.codeHdIn K (lamAd K n).1 (lamAd K n).2).map fun n => ((lamAd K n).2, lamQ n)
def lamT (K : PySem.W.Frag) : List (Addr × Str) := if ((lamRaw K).map (·.1)).Nodup then lamRaw K else []
theorem lam_one : ∀ {l : List (Addr × Str)} {P : Addr} {q q' : Str}, (l.map (·.1)).Nodup → (P, q) ∈ l → (P, q') ∈ l → q' = q
  | [], _, _, _, _, h, _ => nomatch h
  | (a, x) :: l, P, q, q', nd, h, h' => by
    rw [List.map_cons, List.nodup_cons] at nd
    rcases List.mem_cons.mp h with e | e
    · rcases List.mem_cons.mp h' with e' | e'
      · cases e
        cases e'
        rfl
      · cases e
        exact absurd (List.mem_map_of_mem (f := (·.1)) e') nd.1
    · rcases List.mem_cons.mp h' with e' | e'
      · cases e'
        exact absurd (List.mem_map_of_mem (f := (·.1)) e) nd.1
      · exact lam_one nd.2 e e'
theorem lamT_one {K : PySem.W.Frag} {P : Addr} {q q' : Str} (h : (P, q) ∈ lamT K) (h' : (P, q') ∈ lamT K) : q' = q := by
  unfold lamT at h h'
  split at h
  · rename_i nd
    rw [if_pos nd] at h'
    exact lam_one nd h h'
  · cases h
structure SameT (K : PySem.W.Frag) (H H' : Hp) : Prop where
  at' : ∀ a o, H a = some o → NT o → H' a = some o
  dom : ∀ a, H a ≠ none → H' a ≠ none
  tab : LamX.Tabs (lamT K) H → LamX.Tabs (lamT K) H'
theorem SameT.of {H H' : Hp} (s : Same H H') : SameT K H H' := ⟨fun a o h _ => s a o h, fun a h => by
  cases e : H a with
  | none => exact absurd e h
  | some o => rw [s a o e]; exact fun z => (by cases z), fun t => t.ext s⟩
theorem SameT.refl (H : Hp) : SameT K H H := SameT.of (Same.refl _)
theorem SameT.trans {H H1 H2 : Hp} (a : SameT K H H1) (b : SameT K H1 H2) : SameT K H H2 :=
  ⟨fun c o h n => b.at' c o (a.at' c o h n) n, fun c h => b.dom c (a.dom c h), fun t => b.tab (a.tab t)⟩
theorem SameT.free {H H' : Hp} (s : SameT K H H') {a : Addr} (h : H' a = none) : H a = none := by
  cases e : H a with
  | none => rfl
  | some o => exact absurd h (s.dom a fun z => by rw [e] at z; cases z)
theorem codeO_dk (c : Addr) (q : Str) (a : Addr) (ep : Nat) (xs : List DN.Ent) : LamX.CodeO c q ≠ DN.DK a ep xs := fun e => by
  unfold LamX.CodeO DN.DK at e
  injection e with e
  have h1 := congrFun e { objs := Array.replicate (c + 1) { cls := .type "code", data := .fields #[.none, .str q 0] } }
  have h2 : DN.DKp a ep xs { objs := Array.replicate (c + 1) { cls := .type "code", data := .fields #[.none, .str q 0] } } := by
    rw [← h1]
    exact ⟨_, _, 0, by simp [Heap.get?]; rfl, rfl, rfl⟩
  obtain ⟨_, _, _, o, es, h3, _, h4, _⟩ := h2
  by_cases ha : a < c + 1
  · simp [Heap.get?, Array.getElem?_replicate, ha] at h3
    rw [← h3] at h4
    cases h4
  · simp [Heap.get?, Array.getElem?_replicate, ha] at h3
theorem codeO_lst (c : Addr) (q : Str) (vs : List V) : LamX.CodeO c q ≠ .lst vs := fun e => by
  unfold LamX.CodeO at e
  cases e
theorem SameT.own {H1 H4 : Hp} {D0 : Addr} {o o' : HO} (s : SameT K H1 H4) (h1 : H1 D0 = none) (h4 : H4 D0 = some o) (n : NT o) (nc : ∀ c q, LamX.CodeO c q ≠ o) : SameT K H1 (upd H4 D0 o') where
  at' := fun b x hb hn => by
    have nb : b ≠ D0 := fun z => by rw [z, h1] at hb; cases hb
    rw [upd_ne nb]
    exact s.at' b x hb hn
  dom := fun b hb => by
    have nb : b ≠ D0 := fun z => hb (by rw [z]; exact h1)
    rw [upd_ne nb]
    exact s.dom b hb
  tab := fun t p hp => by
    obtain ⟨ps, k1, k2, k3⟩ := s.tab t p hp
    refine ⟨ps, ?_, k2, fun pos cv hc => ?_⟩
    · have nb : p.1 ≠ D0 := fun z => by
        rw [z, h4] at k1
        injection k1 with k1
        exact n ps k1
      rw [upd_ne nb]
      exact k1
    · obtain ⟨c, e1, e2⟩ := k3 pos cv hc
      have nb : c ≠ D0 := fun z => by
        rw [z, h4] at e2
        injection e2 with e2
        exact nc _ _ e2.symm
      exact ⟨c, e1, by rw [upd_ne nb]; exact e2⟩
theorem SameT.ownL {H1 H4 : Hp} {D0 : Addr} {vs : List V} {o' : HO} (s : SameT K H1 H4) (h1 : H1 D0 = none) (h4 : H4 D0 = some (.lst vs)) : SameT K H1 (upd H4 D0 o') := s.own h1 h4 (fun _ z => nomatch z) fun c q => codeO_lst c q vs
def OwnN (H : Hp) (a : Addr) : Prop := H a = none ∨ ∃ o, H a = some o ∧ NT o ∧ ∀ c q, LamX.CodeO c q ≠ o
theorem OwnN.lst {H : Hp} {a : Addr} {vs : List V} (h : H a = some (.lst vs)) : OwnN H a := .inr ⟨_, h, (fun _ z => nomatch z), fun c q => codeO_lst c q vs⟩
theorem OwnN.dk {H : Hp} {a b : Addr} {ep : Nat} {xs : List DN.Ent} (h : H a = some (DN.DK b ep xs)) : OwnN H a := .inr ⟨_, h, fun _ z => (by unfold DN.DK at z; cases z), fun c q => codeO_dk c q b ep xs⟩
theorem SameT.ownN {H1 H4 : Hp} {D0 : Addr} {o' : HO} (s : SameT K H1 H4) (h1 : H1 D0 = none) (h : OwnN H4 D0) : SameT K H1 (upd H4 D0 o') := by
  rcases h with h | ⟨o, h4, n, nc⟩
  · exact s.trans (SameT.of fun b x e => by rw [upd_ne (ne_of_none e h)]; exact e)
  · exact s.own h1 h4 n nc
theorem rdT {H H' : Hp} {a : Addr} {u : HO} (s : SameT K H H') (h : Rd H a u) (n : NT u) : Rd H' a u := by
  rcases h with h | ⟨o, h⟩
  · exact .inl (s.at' _ _ h n)
  · exact .inr ⟨o, s.at' _ _ h fun _ z => nomatch z⟩
theorem SameT.lst {H H' : Hp} (s : SameT K H H') {a : Addr} {vs : List V} (h : H a = some (.lst vs)) : H' a = some (.lst vs) := s.at' a _ h fun _ z => nomatch z
theorem SameT.dk {H H' : Hp} (s : SameT K H H') {a b : Addr} {ep : Nat} {xs : List DN.Ent} (h : H a = some (DN.DK b ep xs)) : H' a = some (DN.DK b ep xs) := s.at' a _ h fun _ z => (by unfold DN.DK at z; cases z)
structure Step (K : PySem.W.Frag) (H G H' G' : Hp) : Prop where
  same : SameT K H H'
  gg : Same G G'
  gh : Same G' H'
  old : ∀ a, H a ≠ none → G' a = G a
theorem Step.refl (h : Same G H) : Step K H G H G := ⟨SameT.refl _, Same.refl _, h, fun _ _ => rfl⟩
theorem some_ne {a : Addr} {o : HO} (h : H a = some o) : H a ≠ none := fun z => by rw [h] at z; cases z
theorem Step.trans {H1 G1 H2 G2 : Hp} (a : Step K H G H1 G1) (b : Step K H1 G1 H2 G2) : Step K H G H2 G2 :=
  ⟨a.same.trans b.same, a.gg.trans b.gg, b.gh, fun c h => by
    rw [b.old c (a.same.dom c h), a.old c h]⟩
theorem same_new {p : Addr} {o : HO} (h : H p = none) : Same H (upd H p o) := fun b x e => by
  rw [upd_ne (ne_of_none e h)]
  exact e
theorem Step.new {p : Addr} {o : HO} (h : Same G H) (hp : H p = none) : Step K H G (upd H p o) (upd G p o) where
  same := SameT.of (same_new hp)
  gg := same_new (h.free hp)
  gh := fun b x e => by
    by_cases hb : b = p
    · subst hb
      rw [upd_same] at e ⊢
      exact e
    · rw [upd_ne hb] at e ⊢
      exact h b x e
  old := fun a ha => upd_ne fun e => ha (by rw [e]; exact hp)
theorem Step.new' {p : Addr} {o : HO} (h : Same G H) (hp : H p = none) : Step K H G (upd H p o) G :=
  ⟨SameT.of (same_new hp), Same.refl _, h.trans (same_new hp), fun _ _ => rfl⟩
theorem Step.shut {p : Addr} {o : HO} (s : Step K H G H' G') (hp : H p = none) (hn : G' p = none) (ho : H' p = some o) : Step K H G H' (upd G' p o) where
  same := s.same
  gg := s.gg.trans (same_new hn)
  gh := fun b x e => by
    by_cases hb : b = p
    · subst hb
      rw [upd_same] at e
      rw [← e]
      exact ho
    · rw [upd_ne hb] at e
      exact s.gh b x e
  old := fun a ha => by
    rw [upd_ne fun e => ha (by rw [e]; exact hp)]
    exact s.old a ha
def TbOk (K : PySem.W.Frag) (G H : Hp) : Prop := LamX.Tabs (lamT K) H ∧ ∀ p ∈ lamT K, G p.1 = none
theorem Step.tb {K : PySem.W.Frag} (s : Step K H G H' G') (t : TbOk K G H) : TbOk K G' H' := ⟨s.same.tab t.1, fun p hp => by
  obtain ⟨ps, h1, _⟩ := t.1 p hp
  rw [s.old _ (some_ne h1)]
  exact t.2 p hp⟩
theorem nt_dk (a : Addr) (ep : Nat) (xs : List DN.Ent) : NT (DN.DK a ep xs) := fun _ z => by unfold DN.DK at z; cases z
inductive SV where
  | val (d : D)
  | own (xs : List D)
  | dic (kvs : List (D × D))
  | look (xs : List D)
abbrev Env := List (Option SV)
def SlotOk (K : PySem.W.Frag) (H0 H G : Hp) : SV → V → Prop
  | .val d, v => Rp K G v d
  | .own xs, v => ∃ a vs, v = .ref a ∧ H a = some (.lst vs) ∧ RpAll K G vs xs ∧ G a = none ∧ H0 a = none
  | .dic kvs, v => ∃ a ep xs, v = .ref a ∧ H a = some (DN.DK a ep xs) ∧ RpKV K G xs kvs ∧ G a = none ∧ H0 a = none
  | .look xs, v => ∃ a vs, v = .ref a ∧ H0 a = some (.lst vs) ∧ RpAll K G vs xs
structure EnvOk (K : PySem.W.Frag) (H0 G0 H G : Hp) (σ : St) (ρ : Env) : Prop where
  tabs : TbOk K G0 H0
  len : σ.length = ρ.length
  st : Step K H0 G0 H G
  sl : ∀ (i : Nat) sv, ρ[i]? = some (some sv) → ∃ v, σ[i]? = some (some v) ∧ SlotOk K H0 H G sv v
  sep : ∀ (i j : Nat) xs ys, i ≠ j → ρ[i]? = some (some (.own xs)) → ρ[j]? = some (some (.own ys)) → σ[i]? ≠ σ[j]?
  sepD : ∀ (i j : Nat) xs ys, i ≠ j → ρ[i]? = some (some (.dic xs)) → ρ[j]? = some (some (.dic ys)) → σ[i]? ≠ σ[j]?
theorem EnvOk.tb {σ : St} {ρ : Env} (e : EnvOk K H0 G0 H G σ ρ) : TbOk K G H := e.st.tb e.tabs
theorem EnvOk.gh {σ : St} {ρ : Env} (e : EnvOk K H0 G0 H G σ ρ) : Same G H := e.st.gh
theorem EnvOk.step {σ : St} {ρ : Env} (e : EnvOk K H0 G0 H G σ ρ) (s : Step K H G H' G') : EnvOk K H0 G0 H' G' σ ρ where
  tabs := e.tabs
  len := e.len
  st := e.st.trans s
  sl := fun i sv h => by
    obtain ⟨v, h1, h2⟩ := e.sl i sv h
    refine ⟨v, h1, ?_⟩
    cases sv with
    | val d => exact Rp.mono s.gg h2
    | own xs =>
      obtain ⟨a, vs, e1, e2, e3, e4, e5⟩ := h2
      refine ⟨a, vs, e1, s.same.lst e2, e3.mono s.gg, ?_, e5⟩
      rw [s.old a (some_ne e2)]
      exact e4
    | dic kvs =>
      obtain ⟨a, ep, xs, e1, e2, e3, e4, e5⟩ := h2
      refine ⟨a, ep, xs, e1, s.same.at' _ _ e2 (nt_dk _ _ _), e3.mono s.gg, ?_, e5⟩
      rw [s.old a (some_ne e2)]
      exact e4
    | look xs =>
      obtain ⟨a, vs, e1, e2, e3⟩ := h2
      exact ⟨a, vs, e1, e2, e3.mono s.gg⟩
  sep := e.sep
  sepD := e.sepD
inductive Md where
  | fz | bw | ow
def OwnV (K : PySem.W.Frag) (H G : Hp) (v : V) (xs : List D) : Prop := ∃ a vs, v = .ref a ∧ H a = some (.lst vs) ∧ RpAll K G vs xs
def Rb (K : PySem.W.Frag) (H G : Hp) (v : V) (d : D) : Prop := Rp K G v d ∨ ∃ xs, d = .list xs ∧ OwnV K H G v xs
def Res (K : PySem.W.Frag) (H H' G' : Hp) (v : V) (d : D) : Md → Prop
  | .fz => Rp K G' v d
  | .bw => Rb K H' G' v d
  | .ow => match d with
    | .list xs => ∃ a vs, v = .ref a ∧ H a = none ∧ H' a = some (.lst vs) ∧ G' a = none ∧ RpAll K G' vs xs
    | _ => Rp K G' v d
abbrev Den := Env → Option D
def tE (K : PySem.W.Frag) (m : Md) (f : Den) : TE := fun σ H Q => ∃ H0 G0 G ρ d, EnvOk K H0 G0 H G σ ρ ∧ f ρ = some d ∧ ∀ v H' G', Step K H G H' G' → Res K H H' G' v d m → Q v H'
def tT (K : PySem.W.Frag) (f : Env → Option Bool) : TT := fun σ H Q => ∃ H0 G0 G ρ b, EnvOk K H0 G0 H G σ ρ ∧ f ρ = some b ∧ ∀ H' G', Step K H G H' G' → Q b H'
def tA (K : PySem.W.Frag) (f : Env → Option (List D)) : TA := fun σ H Q => ∃ H0 G0 G ρ ds, EnvOk K H0 G0 H G σ ρ ∧ f ρ = some ds ∧ ∀ vs H' G', Step K H G H' G' → RpAll K G' vs ds → Q vs H'
def tAb (K : PySem.W.Frag) (f : Env → Option (List D)) : TA := fun σ H Q => ∃ H0 G0 G ρ ds, EnvOk K H0 G0 H G σ ρ ∧ f ρ = some ds ∧ ∀ vs H' G', Step K H G H' G' → Paired (Rb K H' G') vs ds → Q vs H'
inductive Out where
  | next (ρ : Env) | ret (d : D) | brk (ρ : Env) | cont (ρ : Env) | reto (d : D)
abbrev DenS := Env → Option Out
def Goes (K : PySem.W.Frag) (H0 G0 B : Hp) (Dn : Ends) : Out → Prop
  | .next ρ' => ∀ σ' H' G', Same B G' → EnvOk K H0 G0 H' G' σ' ρ' → Dn.nx σ' H'
  | .brk ρ' => ∀ σ' H' G', Same B G' → EnvOk K H0 G0 H' G' σ' ρ' → Dn.bk σ' H'
  | .cont ρ' => ∀ σ' H' G', Same B G' → EnvOk K H0 G0 H' G' σ' ρ' → Dn.ct σ' H'
  | .ret d => ∀ v H' G', Step K H0 G0 H' G' → Rp K G' v d → Dn.rt v H'
  | .reto d => ∀ v H' G', Step K H0 G0 H' G' → Res K H0 H' G' v d .ow → Dn.rt v H'
theorem Goes.mono {K : PySem.W.Frag} {H0 G0 B B' : Hp} {Dn : Ends} (g : Same B B') : ∀ {out : Out}, Goes K H0 G0 B Dn out → Goes K H0 G0 B' Dn out
  | .next _, h => fun σ' H' G' s e => h σ' H' G' (g.trans s) e
  | .brk _, h => fun σ' H' G' s e => h σ' H' G' (g.trans s) e
  | .cont _, h => fun σ' H' G' s e => h σ' H' G' (g.trans s) e
  | .ret _, h => h
  | .reto _, h => h
def tS (K : PySem.W.Frag) (F : DenS) : TS := fun Dn σ H => ∃ H0 G0 G ρ out, EnvOk K H0 G0 H G σ ρ ∧ F ρ = some out ∧ Goes K H0 G0 G Dn out
end
section
variable {X : Cx}
theorem peW {e : Expr} {t t' : TE} (h : PE X e t) (w : ∀ σ H Q, t' σ H Q → t σ H Q) : PE X e t' := ⟨fun pins s σ H Q I q => h.run pins s σ H Q I (w σ H Q q)⟩
theorem ptW {e : Expr} {t t' : TT} (h : PT X e t) (w : ∀ σ H Q, t' σ H Q → t σ H Q) : PT X e t' := ⟨fun pins s σ H Q I q => h.run pins s σ H Q I (w σ H Q q)⟩
theorem pwW {e : Expr} {t t' : TT} (h : PW X e t) (w : ∀ σ H Q, t' σ H Q → t σ H Q) : PW X e t' := ⟨fun wh pins s σ H Q I q => h.run wh pins s σ H Q I (w σ H Q q)⟩
theorem paW {e : List Expr} {t t' : TA} (h : PA X e t) (w : ∀ σ H Q, t' σ H Q → t σ H Q) : PA X e t' := ⟨fun p pins s σ H Q I q => h.run p pins s σ H Q I (w σ H Q q)⟩
theorem psW {e : Stmt} {t t' : TS} (h : PS X e t) (w : ∀ D σ H, t' D σ H → t D σ H) : PS X e t' := ⟨fun pins s σ H D I q => h.run pins s σ H D I (w D σ H q)⟩
theorem pssW {e : List Stmt} {t t' : TS} (h : PSs X e t) (w : ∀ D σ H, t' D σ H → t D σ H) : PSs X e t' := ⟨fun pins s σ H D I q => h.run pins s σ H D I (w D σ H q)⟩
theorem pgW {e : Expr} {t t' : TG} (h : PG X e t) (w : ∀ v σ H Q, t' v σ H Q → t v σ H Q) : PG X e t' := ⟨fun pins s σ H v u Q I r q => h.run pins s σ H v u Q I r (w v σ H Q q)⟩
end
end PF
namespace PF
open PySem PySem.Spec PyProof.Rows L2
section
variable {K : PySem.W.Frag} {G H : Hp}
mutual
theorem key_is : ∀ {v : V} {d : D} {k : NestedKey}, Rp K G v d → keyD d = some k → DN.KeyIs G v k
  | _, _, _, .non, h => by cases h; exact .non
  | _, _, _, .bl _, h => by simp [keyD] at h
  | _, _, _, .int i, h => by cases h; exact .int i
  | _, _, _, .str _, h => by simp [keyD] at h
  | _, _, _, .lst _ _, h => by simp [keyD] at h
  | _, _, _, .tup e r, h => by
    rw [keyD] at h
    obtain ⟨ks, h1, h2⟩ := Option.map_eq_some_iff.mp h
    subst h2
    exact .tup e.rd (keys_is r h1)
  | _, _, _, .scr _, h => by simp [keyD] at h
  | _, _, _, .dic _ _, h => by simp [keyD] at h
  | _, _, _, .wtp _, h => by simp [keyD] at h
  | _, _, _, .hol _, h => by simp [keyD] at h
  | _, _, _, .exc _ _, h => by simp [keyD] at h
theorem keys_is : ∀ {vs : List V} {ds : List D} {ks : List NestedKey}, RpAll K G vs ds → keysD ds = some ks → DN.KeyAll G vs ks
  | _, _, _, .nil, h => by rw [keysD] at h; cases h; exact .nil
  | _, _, _, .cons a b, h => by
    rw [keysD] at h
    obtain ⟨k, h1, h⟩ := Option.bind_eq_some_iff.mp h
    obtain ⟨ks, h2, h3⟩ := Option.map_eq_some_iff.mp h
    subst h3
    exact .cons (key_is a h1) (keys_is b h2)
end
theorem keyT_tup {d : D} {k : NestedKey} (h : keyT d = some k) : (∃ ds, d = .tuple ds) ∧ keyD d = some k ∧ k.depth ≤ 8 := by
  unfold keyT at h
  split at h
  · obtain ⟨k', h1, h⟩ := Option.bind_eq_some_iff.mp h
    split at h
    · cases h; exact ⟨⟨_, rfl⟩, h1, by assumption⟩
    · cases h
  · cases h
theorem key_ok {d : D} {k : NestedKey} {b : Addr} (r : Rp K G (.ref b) d) (h : keyT d = some k) (gh : Same G H) : DN.KeyOk H k b :=
  let ⟨_, h1, h2⟩ := keyT_tup h
  ⟨(key_is r h1).mono fun a xs e => rdM gh e, h2⟩
theorem kv_keys : ∀ {xs : List DN.Ent} {kvs : List (D × D)}, RpKV K G xs kvs → Same G H → DN.KeysOk H xs
  | _, _, .nil, _ => fun x hx => by cases hx
  | _, _, .cons h a _ c, gh => fun x hx => by
    rcases List.mem_cons.mp hx with rfl | hx
    · exact key_ok a h gh
    · exact kv_keys c gh x hx
theorem kv_len : ∀ {xs : List DN.Ent} {kvs : List (D × D)}, RpKV K G xs kvs → xs.length = kvs.length
  | _, _, .nil => rfl
  | _, _, .cons _ _ _ c => by rw [List.length_cons, List.length_cons, kv_len c]
theorem kv_get : ∀ {xs : List DN.Ent} {kvs : List (D × D)}, RpKV K G xs kvs → ∀ {i : Nat} {p : D × D}, kvs[i]? = some p → ∃ x, xs[i]? = some x ∧ keyT p.1 = some x.1 ∧ Rp K G (.ref x.2.1) p.1 ∧ Rp K G x.2.2 p.2
  | _, _, .nil, i, p, h => by simp at h
  | _, _, .cons h a b c, 0, p, e => by simp at e; subst e; exact ⟨_, rfl, h, a, b⟩
  | _, _, .cons _ _ _ c, i + 1, p, e => by
    obtain ⟨x, h1, h2⟩ := kv_get c (i := i) (by simpa using e)
    exact ⟨x, by simpa using h1, h2⟩
end
def isKy (k : NestedKey) (p : D × D) : Bool := decide (keyT p.1 = some k)
def getKV (kvs : List (D × D)) (k : NestedKey) : Option D := (kvs.find? (isKy k)).map (·.2)
def putKV (kvs : List (D × D)) (k : NestedKey) (d v : D) : List (D × D) := if (getKV kvs k).isSome then kvs.map fun p => if isKy k p = true then (p.1, v) else p else kvs ++ [(d, v)]
def dropKV (kvs : List (D × D)) (k : NestedKey) : List (D × D) := kvs.filter fun p => !isKy k p
section
variable {K : PySem.W.Frag} {G H : Hp} {k : NestedKey}
theorem isKy_iff {p : D × D} {k' : NestedKey} (h : keyT p.1 = some k') : isKy k p = decide (k' = k) := by
  unfold isKy
  rw [h]
  exact decide_eq_decide.mpr ⟨fun e => Option.some.inj e, fun e => by rw [e]⟩
theorem kv_at : ∀ {xs : List DN.Ent} {kvs : List (D × D)}, RpKV K G xs kvs → (DN.atN xs k = none ∧ getKV kvs k = none) ∨ ∃ b v d, DN.atN xs k = some (b, v) ∧ getKV kvs k = some d ∧ Rp K G v d
  | _, _, .nil => .inl ⟨rfl, rfl⟩
  | _, _, .cons (k := k') (b := b) (v := v) (d := d) (e := e) h ra rb c => by
    have ih := kv_at c
    have e1 := isKy_iff (k := k) (p := (d, e)) h
    unfold DN.atN getKV at ih ⊢
    by_cases hk : k' = k
    · refine .inr ⟨b, v, e, ?_, ?_, rb⟩
      · rw [List.find?_cons_of_pos (by simpa using hk)]; rfl
      · rw [List.find?_cons_of_pos (by rw [e1]; simpa using hk)]; rfl
    · rw [List.find?_cons_of_neg (by simpa using hk), List.find?_cons_of_neg (by rw [e1]; simpa using hk)]
      exact ih
theorem kv_some {xs : List DN.Ent} {kvs : List (D × D)} (r : RpKV K G xs kvs) : (DN.atN xs k).isSome = (getKV kvs k).isSome := by
  rcases kv_at (k := k) r with ⟨h1, h2⟩ | ⟨b, v, d, h1, h2, _⟩ <;> rw [h1, h2] <;> rfl
theorem kv_put {v : V} {e : D} (rv : Rp K G v e) : ∀ {xs : List DN.Ent} {kvs : List (D × D)}, RpKV K G xs kvs → RpKV K G (xs.map (DN.putN k v)) (kvs.map fun p => if isKy k p = true then (p.1, e) else p)
  | _, _, .nil => .nil
  | _, _, .cons (k := k') (b := b) (v := v') (d := d) (e := e') h ra rb c => by
    have ih := kv_put rv c
    have e1 := isKy_iff (k := k) (p := (d, e')) h
    rw [List.map_cons, List.map_cons]
    unfold DN.putN
    by_cases hk : k' = k
    · rw [if_pos hk, if_pos (by rw [e1]; simpa using hk)]; exact .cons h ra rv ih
    · rw [if_neg hk, if_neg (by rw [e1]; simpa using hk)]; exact .cons h ra rb ih
theorem kv_app {b : Addr} {v : V} {d e : D} (h : keyT d = some k) (rb : Rp K G (.ref b) d) (rv : Rp K G v e) : ∀ {xs : List DN.Ent} {kvs : List (D × D)}, RpKV K G xs kvs → RpKV K G (xs ++ [(k, b, v)]) (kvs ++ [(d, e)])
  | _, _, .nil => .cons h rb rv .nil
  | _, _, .cons h' ra rb' c => .cons h' ra rb' (kv_app h rb rv c)
theorem kv_stored {xs : List DN.Ent} {kvs : List (D × D)} {b : Addr} {v : V} {d e : D} (r : RpKV K G xs kvs) (h : keyT d = some k) (rb : Rp K G (.ref b) d) (rv : Rp K G v e) : RpKV K G (DN.storedN xs k b v) (putKV kvs k d e) := by
  unfold DN.storedN putKV
  rw [kv_some r]
  split
  · exact kv_put rv r
  · exact kv_app h rb rv r
theorem kv_drop : ∀ {xs : List DN.Ent} {kvs : List (D × D)}, RpKV K G xs kvs → RpKV K G (DN.withoutN xs k) (dropKV kvs k)
  | _, _, .nil => .nil
  | _, _, .cons (k := k') (b := b) (v := v') (d := d) (e := e') h ra rb c => by
    have ih := kv_drop c
    have e1 := isKy_iff (k := k) (p := (d, e')) h
    unfold DN.withoutN dropKV at ih ⊢
    by_cases hk : k' = k
    · rw [List.filter_cons_of_neg (by simpa using hk), List.filter_cons_of_neg (by rw [e1]; simpa using hk)]; exact ih
    · rw [List.filter_cons_of_pos (by simpa using hk), List.filter_cons_of_pos (by rw [e1]; simpa using hk)]; exact .cons h ra rb ih
end
section
variable {X : Cx}
def rInN (n : Bool) : R2 := fun x y H Q => DN.AtD H y x fun a ep xs k b => Q (.bl (if n = true then !(DN.atN xs k).isSome else (DN.atN xs k).isSome)) H
theorem op_inN (hu : X.A.units + 65 < cLine) : OpR X (compareOp .In) (rInN false) := by
  intro pins s σ H x y v u Q I rx ry h
  obtain ⟨a, ep, xs, k, b, ey, ex, g, ks, hk, q⟩ := h
  subst ex ey
  cases rx
  cases ry
  exact DN.n_in (by omega) I g ks hk fun s' I' => ⟨.bl (DN.atN xs k).isSome, H, I', rfl, q⟩
theorem op_notInN (hu : X.A.units + 65 < cLine) : OpR X (compareOp .NotIn) (rInN true) := by
  intro pins s σ H x y v u Q I rx ry h
  obtain ⟨a, ep, xs, k, b, ey, ex, g, ks, hk, q⟩ := h
  subst ex ey
  cases rx
  cases ry
  exact DN.n_notIn (by omega) I g ks hk fun s' I' => ⟨.bl (!(DN.atN xs k).isSome), H, I', rfl, q⟩
def rIxN : R2 := fun x y H Q => DN.AtD H x y fun a ep xs k b => ∃ v, (DN.atN xs k).map (·.2) = some v ∧ Q v H
theorem ix_n (hu : X.A.units + 65 < cLine) : IxR X rIxN := by
  intro value slice pins s σ H x y v u Q I rx ry h hs
  obtain ⟨a, ep, xs, k, b, ex, ey, g, ks, hk, z, l, q⟩ := h
  subst ex ey
  cases rx
  cases ry
  exact tail_any (ops := [.ref a, .ref b]) (DN.n_typeIs I g) PySem.F.slot_dict_getitem.lookup (DN.n_getItem (by omega) I g ks hk l fun w' s' I' rw' => ⟨z, H, I', rw', q⟩) hs
theorem atD_of {K : PySem.W.Frag} {H G : Hp} {x y : V} {kvs : List (D × D)} {dk : D} {k : NestedKey} {F : Addr → Nat → List DN.Ent → NestedKey → Addr → Prop} (gh : Same G H) (rx : Rp K G x (dicD kvs)) (ry : Rp K G y dk) (hk : keyT dk = some k)
    (h : ∀ a ep xs b, RpKV K G xs kvs → F a ep xs k b) : DN.AtD H x y F := by
  obtain ⟨⟨ds, rfl⟩, _, _⟩ := keyT_tup hk
  generalize hd : dicD kvs = d at rx
  cases rx with
  | dic e r =>
    injection hd with hd
    injection hd with _ hd
    subst hd
    cases ry with
    | tup e2 r2 => exact ⟨_, _, _, k, _, rfl, rfl, gh _ _ e, kv_keys r gh, key_ok (.tup e2 r2) hk gh, h _ _ _ _ r⟩
  | _ => cases hd
end
end PF
namespace DN
open PySem PySem.Spec PyProof.Rows L2
theorem vals_ents : ∀ xs : List Ent, Vals (xs.map fun x => V.ref x.2.1) (xs.map fun x => Value.ref x.2.1)
  | [] => .nil
  | _ :: r => .cons rfl (vals_ents r)
section
variable {X : Cx}
def rLenN : List V → Hp → VK → Prop := fun vs H Q => ∃ a ep xs, vs = [.ref a] ∧ H a = some (DK a ep xs) ∧ KeysOk H xs ∧ Q (.int ((xs.length : Nat) : Int)) H
theorem call_lenN : CallR X (.builtin "len") rLenN := by
  intro pins s σ H vs us Q I r h
  obtain ⟨a, ep, xs, rfl, ha, hk, q⟩ := h
  obtain ⟨u, rfl, rx⟩ := vals1 r
  obtain rfl : u = .ref a := rx
  obtain ⟨z, hd, ys, rel, dd, _⟩ := dn_of I.hok ha hk
  have hl : xs.length = ys.length := Paired.length rel
  refine call_len_dictH hd dd (by rw [← hl]; rw [sizeLine_eq] at z; omega) ?_
  rw [← hl]
  exact ⟨.int ((xs.length : Nat) : Int), H, I.tok _, ⟨_, rfl⟩, q⟩
def rListN : List V → Hp → VK → Prop := fun vs H Q => ∃ a ep xs, vs = [.ref a] ∧ H a = some (DK a ep xs) ∧ ∀ l, H l = none → Q (.ref l) (upd H l (.lst (xs.map fun x => V.ref x.2.1)))
theorem call_listN (hc : X.calm = true) : CallR X (.type "list") rListN := by
  intro pins s σ H vs us Q I r h
  obtain ⟨a, ep, xs, rfl, ha, q⟩ := h
  obtain ⟨u, rfl, rx⟩ := vals1 r
  obtain rfl : u = .ref a := rx
  obtain ⟨hs, z, nd, o, es, ho, hx, hdt, he⟩ := DK.at I.hok ha
  have l1 : es.size = xs.length := by rw [← Array.length_toList]; exact (Paired.length he).symm
  refine PySem.W.kdl_call (kdl_raw hs hx hdt) (I.ok.hd hc) ho (by omega) fun h' tk acc' c' kp e it => ?_
  have ea : acc'.toList = xs.map fun x => Value.ref x.2.1 := by
    have hl : acc'.toList.length = xs.length := by rw [Array.length_toList, it.1]; exact l1
    refine List.ext_getElem (by rw [hl, List.length_map]) fun j h1 h2 => ?_
    have hj : j < xs.length := by omega
    obtain ⟨en, hen, hv⟩ := it.2 j acc'.toList[j] (by rw [← Array.getElem?_toList]; exact List.getElem?_eq_getElem h1)
    obtain ⟨en', g1, g2⟩ := ent_get he (List.getElem?_eq_getElem hj)
    rw [Array.getElem?_toList, hen] at g1
    cases g1
    rw [hv, g2.2.1, List.getElem_map]
  have rv : Vals (xs.map fun x => V.ref x.2.1) acc'.toList := by
    rw [ea]
    exact vals_ents xs
  refine ⟨.ref s.heap.objs.size, _, I.laid (t' := tk) (o := .lst (xs.map fun x => V.ref x.2.1)) kp (Nat.le_refl _) ?_, rfl, q _ (I.hok.fresh (Nat.le_refl _))⟩
  exact ⟨by rw [List.length_map]; exact z, acc'.toList, c', rv, by rw [Array.toArray_toList]; exact e⟩
end
end DN
namespace PF
open PySem PySem.Spec PyProof.Rows L2
section
variable {K : PySem.W.Frag} {G G' H H' H0 G0 : Hp}
theorem Rb.step {v : V} {d : D} (r : Rb K H G v d) (s : Step K H G H' G') : Rb K H' G' v d := by
  rcases r with r | ⟨xs, rfl, a, vs, rfl, h, r⟩
  · exact .inl (r.mono s.gg)
  · exact .inr ⟨xs, rfl, a, vs, rfl, s.same.lst h, r.mono s.gg⟩
theorem Rb.dp {v : V} {d : D} (hc : SeqAt.shaped d = true) (gh : Same G H) (r : Rb K H G v d) : Dp K H v d := by
  have hl : d.canLay0 = true := SeqAt.canLay_of_shaped hc
  rcases r with r | ⟨xs, rfl, a, vs, rfl, h, r⟩
  · exact (r.mono gh).dp hl
  · exact .lst (SqL.of h) ((r.mono gh).dp (by simpa [PyData.canLay0] using hl))
theorem Rb.int {v : V} {i : Int} (r : Rb K H G v (.int i)) : v = .int i := by
  rcases r with r | ⟨xs, e, _⟩
  · cases r; rfl
  · cases e
theorem Rb.bool {v : V} {i : Bool} (r : Rb K H G v (.bool i)) : v = .bl i := by
  rcases r with r | ⟨xs, e, _⟩
  · cases r; rfl
  · cases e
theorem Rb.str {v : V} {i : Str} (r : Rb K H G v (.str i)) : v = .str i := by
  rcases r with r | ⟨xs, e, _⟩
  · cases r; rfl
  · cases e
theorem Rb.none {v : V} (r : Rb K H G v .none) : v = .non := by
  rcases r with r | ⟨xs, e, _⟩
  · cases r; rfl
  · cases e
theorem Rb.tup {v : V} {ds : List D} (r : Rb K H G v (.tuple ds)) : ∃ a vs, v = .ref a ∧ TupG G a vs ∧ RpAll K G vs ds := by
  rcases r with r | ⟨xs, e, _⟩
  · cases r with
    | tup h q => exact ⟨_, _, rfl, h, q⟩
  · cases e
theorem Rb.lst {v : V} {ds : List D} (gh : Same G H) (r : Rb K H G v (.list ds)) : ∃ a vs, v = .ref a ∧ Rd H a (.lst vs) ∧ RpAll K G vs ds := by
  rcases r with r | ⟨xs, e, a, vs, rfl, h, q⟩
  · cases r with
    | lst h q => exact ⟨_, _, rfl, rdM gh (.inl h), q⟩
  · cases e
    exact ⟨a, vs, rfl, .inl h, q⟩
theorem Res.back {v : V} {d : D} {m : Md} {H2 G2 : Hp} (s : Step K H G H2 G2) (r : Res K H2 H' G' v d m) : Res K H H' G' v d m := by
  cases m with
  | fz => exact r
  | bw => exact r
  | ow =>
    cases d with
    | list xs =>
      obtain ⟨a, vs, e, n, h, g, q⟩ := r
      exact ⟨a, vs, e, s.same.free n, h, g, q⟩
    | _ => exact r
theorem ow_int (i : Int) : Res K H H' G' (.int i) (.int i) .ow := Rp.int i
theorem ow_bool (i : Bool) : Res K H H' G' (.bl i) (.bool i) .ow := Rp.bl i
theorem ow_str (i : Str) : Res K H H' G' (.str i) (.str i) .ow := Rp.str i
theorem ow_new {p : Addr} {vs : List V} {ds : List D} (gh : Same G H) (hp : H p = .none) (r : RpAll K G vs ds) : Step K H G (upd H p (.lst vs)) G ∧ Res K H (upd H p (.lst vs)) G (.ref p) (.list ds) .ow :=
  ⟨Step.new' gh hp, p, vs, rfl, hp, upd_same, gh.free hp, r⟩
theorem tup_new {p : Addr} {o : Obj} {vs : List V} {ds : List D} (gh : Same G H) (hp : H p = .none) (ho : o.dict = .none) (r : RpAll K G vs ds) : Step K H G (upd H p (.frz o (.tup vs))) (upd G p (.frz o (.tup vs))) ∧ Res K H (upd H p (.frz o (.tup vs))) (upd G p (.frz o (.tup vs))) (.ref p) (.tuple ds) .ow :=
  ⟨Step.new gh hp, Rp.tup ⟨o, upd_same, ho⟩ (r.mono (same_new (gh.free hp)))⟩
theorem rp_ow {v : V} {d : D} (r : Rp K G' v d) (h : ∀ xs, d ≠ .list xs) : Res K H H' G' v d .ow := by
  cases d with
  | list xs => exact absurd rfl (h xs)
  | _ => exact r
end
section
variable {X : Cx}
theorem fz_ow {e : Expr} {f : Den} (h : PE X e (tE X.K .ow f)) : PE X e (tE X.K .fz f) := peW h fun σ H Q ⟨H0, G0, G, ρ, d, ok, hf, q⟩ => by
  refine ⟨H0, G0, G, ρ, d, ok, hf, fun v H' G' s r => ?_⟩
  cases d with
  | list xs =>
    obtain ⟨a, vs, rfl, n, hv, g, rr⟩ := r
    exact q _ _ _ (s.shut n g hv) (Rp.lst upd_same (rr.mono (same_new g)))
  | _ => exact q _ _ _ s r
theorem bw_fz {e : Expr} {f : Den} (h : PE X e (tE X.K .fz f)) : PE X e (tE X.K .bw f) := peW h fun σ H Q ⟨H0, G0, G, ρ, d, ok, hf, q⟩ => ⟨H0, G0, G, ρ, d, ok, hf, fun v H' G' s r => q v H' G' s (.inl r)⟩
def dVar (i : Nat) : Den := fun ρ => match ρ[i]? with | some (some (.val d)) => some d | _ => none
def dVarB (i : Nat) : Den := fun ρ => match ρ[i]? with | some (some (.val d)) => some d | some (some (.own xs)) => some (.list xs) | some (some (.look xs)) => some (.list xs) | _ => none
def dC (d : D) : Den := fun _ => some d
theorem dVar_eq {i : Nat} {ρ : Env} {d : D} (h : dVar i ρ = some d) : ρ[i]? = some (some (.val d)) := by
  unfold dVar at h
  split at h
  · cases h; assumption
  · cases h
theorem e_var {i : Nat} {x : Str} {pos : Pos} (hN : X.N[i]? = some x) (hv : Vis X.env.scope x) (hd : (x == ("__debug__" : Str)) = false) (hcd : (x == ("__classdict__" : Str)) = false) : PE X (.Name x pos) (tE X.K .fz (dVar i)) :=
  peW (pe_var hN hv hd hcd) fun σ H Q ⟨H0, G0, G, ρ, d, ok, hf, q⟩ => by
    obtain ⟨v, h1, h2⟩ := ok.sl i _ (dVar_eq hf)
    exact ⟨v, h1, q v H G (Step.refl ok.gh) h2⟩
theorem e_varB {i : Nat} {x : Str} {pos : Pos} (hN : X.N[i]? = some x) (hv : Vis X.env.scope x) (hd : (x == ("__debug__" : Str)) = false) (hcd : (x == ("__classdict__" : Str)) = false) : PE X (.Name x pos) (tE X.K .bw (dVarB i)) :=
  peW (pe_var hN hv hd hcd) fun σ H Q ⟨H0, G0, G, ρ, d, ok, hf, q⟩ => by
    unfold dVarB at hf
    split at hf
    · rename_i d' e
      cases hf
      obtain ⟨v, h1, h2⟩ := ok.sl i _ e
      exact ⟨v, h1, q v H G (Step.refl ok.gh) (.inl h2)⟩
    · rename_i xs e
      cases hf
      obtain ⟨v, h1, a, vs, h2, h3, h4, h5, h6⟩ := ok.sl i _ e
      exact ⟨v, h1, q v H G (Step.refl ok.gh) (.inr ⟨xs, rfl, a, vs, h2, h3, h4⟩)⟩
    · rename_i xs e
      cases hf
      obtain ⟨v, h1, a, vs, h2, h3, h4⟩ := ok.sl i _ e
      exact ⟨v, h1, q v H G (Step.refl ok.gh) (.inr ⟨xs, rfl, a, vs, h2, ok.st.same.lst h3, h4⟩)⟩
    · cases hf
theorem e_const {e : Expr} {v : V} {d : D} (h : PE X e (tC v)) (r : ∀ G, Rp X.K G v d) (hd : ∀ xs, d ≠ .list xs) : PE X e (tE X.K .ow (dC d)) := peW h fun σ H Q ⟨H0, G0, G, ρ, d', ok, hf, q⟩ => by
  cases hf
  exact q v H G (Step.refl ok.gh) (rp_ow (r G) hd)
theorem e_int {i : Int} {j : Nat} {pos : Pos} : PE X (.Constant (.int i) j pos) (tE X.K .ow (dC (.int i))) := e_const pe_int (fun _ => .int i) (fun _ z => nomatch z)
theorem e_bool {i : Bool} {j : Nat} {pos : Pos} : PE X (.Constant (.bool i) j pos) (tE X.K .ow (dC (.bool i))) := e_const pe_bl (fun _ => .bl i) (fun _ z => nomatch z)
theorem e_none {j : Nat} {pos : Pos} : PE X (.Constant .none j pos) (tE X.K .ow (dC .none)) := e_const pe_non (fun _ => .non) (fun _ z => nomatch z)
theorem e_str {x : Str} {j : Nat} {pos : Pos} : PE X (.Constant (.str x) j pos) (tE X.K .ow (dC (.str x))) := e_const pe_str (fun _ => .str x) (fun _ z => nomatch z)
def d2 (g : D → D → Option D) (f f' : Den) : Den := fun ρ => (f ρ).bind fun x => (f' ρ).bind fun y => g x y
def Op2 (K : PySem.W.Frag) (r : R2) (g : D → D → Option D) (m : Md) : Prop := ∀ (H G : Hp) (x y : V) (dx dy d : D) (Q : VK), Same G H → Rb K H G x dx → Rb K H G y dy → g dx dy = some d → (∀ v H' G', Step K H G H' G' → Res K H H' G' v d m → Q v H') → r x y H Q
theorem d2_eq {g : D → D → Option D} {f f' : Den} {ρ : Env} {d : D} (h : d2 g f f' ρ = some d) : ∃ x y, f ρ = some x ∧ f' ρ = some y ∧ g x y = some d := by
  unfold d2 at h
  cases e : f ρ with
  | none => rw [e] at h; cases h
  | some x =>
    rw [e] at h
    cases e' : f' ρ with
    | none => rw [e'] at h; cases h
    | some y => rw [e'] at h; exact ⟨x, y, rfl, rfl, h⟩
theorem two {a b : Expr} {fa fb : Den} {g : D → D → Option D} {r : R2} {m : Md} (ho : Op2 X.K r g m) {σ : St} {H : Hp} {Q : VK} (h : tE X.K m (d2 g fa fb) σ H Q) : tOp r (tE X.K .bw fa) (tE X.K .bw fb) σ H Q := by
  obtain ⟨H0, G0, G, ρ, d, ok, hf, q⟩ := h
  obtain ⟨x, y, ha, hb, hg⟩ := d2_eq hf
  refine ⟨H0, G0, G, ρ, x, ok, ha, fun v H1 G1 s1 r1 => ?_⟩
  refine ⟨H0, G0, G1, ρ, y, ok.step s1, hb, fun u H2 G2 s2 r2 => ?_⟩
  exact ho H2 G2 v u x y d Q s2.gh (Rb.step r1 s2) r2 hg fun v' H' G' s r => q v' H' G' ((s1.trans s2).trans s) (Res.back (s1.trans s2) r)
theorem e_bin {a b : Expr} {fa fb : Den} {op : Operator} {g : D → D → Option D} {r : R2} {m : Md} {pos : Pos} (hop : OpR X (binaryOp op) r) (ho : Op2 X.K r g m) (ha : PE X a (tE X.K .bw fa)) (hb : PE X b (tE X.K .bw fb)) : PE X (.BinOp a op b pos) (tE X.K m (d2 g fa fb)) :=
  peW (pe_op hop ha hb) fun σ H Q h => two (a := a) (b := b) ho h
theorem e_cmp {a b : Expr} {fa fb : Den} {op : CmpOp} {g : D → D → Option D} {r : R2} {m : Md} {pos : Pos} (hop : OpR X (compareOp op) r) (ho : Op2 X.K r g m) (hm : behindInMarks op b = false) (ha : PE X a (tE X.K .bw fa)) (hb : PE X b (tE X.K .bw fb)) : PE X (.Compare a [op] [b] pos) (tE X.K m (d2 g fa fb)) :=
  peW (pe_cmpR hop ha hb hm) fun σ H Q h => two (a := a) (b := b) ho h
theorem Op2.or {K : PySem.W.Frag} {r r' : R2} {g g' : D → D → Option D} {m : Md} (h : Op2 K r g m) (h' : Op2 K r' g' m) (k : D → D → Option D) (hk : ∀ x y d, k x y = some d → g x y = some d ∨ g' x y = some d) : Op2 K (fun x y H Q => r x y H Q ∨ r' x y H Q) k m :=
  fun H G x y dx dy d Q gh rx ry e q => by
    rcases hk dx dy d e with e | e
    · exact .inl (h H G x y dx dy d Q gh rx ry e q)
    · exact .inr (h' H G x y dx dy d Q gh rx ry e q)
def aInt2 (c : Int → Int → Bool) (g : Int → Int → Int) : D → D → Option D
  | .int i, .int j => if c i j = true then some (.int (g i j)) else none
  | _, _ => none
theorem aInt2_eq {c : Int → Int → Bool} {g : Int → Int → Int} {x y d : D} (h : aInt2 c g x y = some d) : ∃ i j, x = .int i ∧ y = .int j ∧ c i j = true ∧ d = .int (g i j) := by
  unfold aInt2 at h
  split at h
  · split at h
    · cases h; exact ⟨_, _, rfl, rfl, by assumption, rfl⟩
    · cases h
  · cases h
theorem op2_rI {K : PySem.W.Frag} {C : Int → Int → Prop} {c : Int → Int → Bool} {g : Int → Int → Int} (hc : ∀ i j, c i j = true → C i j) : Op2 K (rI C fun i j => .int (g i j)) (aInt2 c g) .ow := fun H G x y dx dy d Q gh rx ry e q => by
  obtain ⟨i, j, rfl, rfl, h, rfl⟩ := aInt2_eq e
  cases rx.int
  cases ry.int
  exact ⟨i, j, rfl, rfl, hc i j h, q _ H G (Step.refl gh) (ow_int _)⟩
theorem op2_rI0 {K : PySem.W.Frag} {g : Int → Int → Int} : Op2 K (rI0 fun i j => .int (g i j)) (aInt2 (fun _ _ => true) g) .ow := fun H G x y dx dy d Q gh rx ry e q => by
  obtain ⟨i, j, rfl, rfl, h, rfl⟩ := aInt2_eq e
  cases rx.int
  cases ry.int
  exact ⟨i, j, rfl, rfl, q _ H G (Step.refl gh) (ow_int _)⟩
def big64 (i : Int) : Bool := decide (-(2 ^ 64) < i) && decide (i < 2 ^ 64)
def cMul (i j : Int) : Bool := big64 i || big64 j
theorem cMul_ok (i j : Int) (h : cMul i j = true) : CMul i j := by
  unfold cMul big64 at h
  simp only [Bool.or_eq_true, Bool.and_eq_true, decide_eq_true_eq] at h
  exact h
def rCatR : R2 := fun x y H Q => ∃ l b xs zs, x = .ref l ∧ y = .ref b ∧ Rd H l (.lst xs) ∧ Rd H b (.lst zs) ∧ xs.length + zs.length ≤ sizeLine ∧ ∀ p, H p = none → Q (.ref p) (upd H p (.lst (xs ++ zs)))
theorem op_catR : OpR X (binaryOp .Add) rCatR := by
  intro pins s σ H x y v u Q I rx ry h
  obtain ⟨l, b, xs, zs, rfl, rfl, hH, hB, hz, q⟩ := h
  cases rx
  cases ry
  obtain ⟨z, its, n, r, e⟩ := hH.ok I.hok
  obtain ⟨z2, its2, n2, r2, e2⟩ := hB.ok I.hok
  have l1 := r.length
  have l2 := r2.length
  refine PySem.P.add_list e e2 ?_ (by rw [List.size_toArray, List.size_toArray]; omega)
  have ea : its.toArray ++ its2.toArray = (its ++ its2).toArray := by simp
  rw [ea]
  exact ⟨.ref _, _, I.lnew (t' := s.toks) (r.append r2) (by rw [List.length_append]; omega), rfl, q _ I.fresh⟩
def aCatL : D → D → Option D
  | .list xs, .list ys => if xs.length + ys.length ≤ sizeLine then some (.list (xs ++ ys)) else none
  | _, _ => none
def aCatT : D → D → Option D
  | .tuple xs, .tuple ys => if xs.length + ys.length ≤ sizeLine then some (.tuple (xs ++ ys)) else none
  | _, _ => none
def aCatS : D → D → Option D
  | .str xs, .str ys => if xs.length + ys.length ≤ sizeLine then some (.str (xs ++ ys)) else none
  | _, _ => none
theorem op2_catL {K : PySem.W.Frag} : Op2 K rCatR aCatL .ow := fun H G x y dx dy d Q gh rx ry e q => by
  unfold aCatL at e
  split at e
  · rename_i xs ys
    split at e
    · rename_i hl
      cases e
      obtain ⟨a, vs, rfl, h1, r1⟩ := rx.lst gh
      obtain ⟨b, us, rfl, h2, r2⟩ := ry.lst gh
      refine ⟨a, b, vs, us, rfl, rfl, h1, h2, by rw [r1.length, r2.length]; exact hl, fun p hp => ?_⟩
      obtain ⟨s, r⟩ := ow_new gh hp (r1.append r2)
      exact q _ _ _ s r
    · cases e
  · cases e
theorem op2_catT {K : PySem.W.Frag} : Op2 K (TN.rCatN K) aCatT .ow := fun H G x y dx dy d Q gh rx ry e q => by
  unfold aCatT at e
  split at e
  · rename_i xs ys
    split at e
    · rename_i hl
      cases e
      obtain ⟨a, vs, rfl, h1, r1⟩ := rx.tup
      obtain ⟨b, us, rfl, h2, r2⟩ := ry.tup
      refine ⟨a, b, vs, us, rfl, rfl, .inl (rdM gh h1.rd), .inl (rdM gh h2.rd), by rw [r1.length, r2.length]; exact hl, fun z => ?_, fun z => ?_, fun p o hp ho => ?_⟩
      · subst z
        cases r1
        exact q _ _ _ (Step.refl gh) (Rp.tup h2 r2)
      · subst z
        cases r2
        rw [List.append_nil] at q
        exact q _ _ _ (Step.refl gh) (Rp.tup h1 r1)
      · obtain ⟨s, r⟩ := tup_new gh hp ho (r1.append r2)
        exact q _ _ _ s r
    · cases e
  · cases e
theorem op2_catS {K : PySem.W.Frag} : Op2 K (fun x y H Q => ∃ i j, x = .str i ∧ y = .str j ∧ i.length + j.length ≤ sizeLine ∧ Q (.str (i ++ j)) H) aCatS .ow := fun H G x y dx dy d Q gh rx ry e q => by
  unfold aCatS at e
  split at e
  · split at e
    · cases e
      cases rx.str
      cases ry.str
      exact ⟨_, _, rfl, rfl, by assumption, q _ _ _ (Step.refl gh) (ow_str _)⟩
    · cases e
  · cases e
def aAdd : D → D → Option D
  | .int i, .int j => some (.int (i + j))
  | .list xs, .list ys => if xs.length + ys.length ≤ sizeLine then some (.list (xs ++ ys)) else none
  | .tuple xs, .tuple ys => if xs.length + ys.length ≤ sizeLine then some (.tuple (xs ++ ys)) else none
  | .str xs, .str ys => if xs.length + ys.length ≤ sizeLine then some (.str (xs ++ ys)) else none
  | _, _ => none
theorem e_add {a b : Expr} {fa fb : Den} {pos : Pos} (ha : PE X a (tE X.K .bw fa)) (hb : PE X b (tE X.K .bw fb)) : PE X (.BinOp a .Add b pos) (tE X.K .ow (d2 aAdd fa fb)) := by
  refine e_bin (op_add.or (op_catR.or (TN.op_catN.or op_add_str))) (Op2.or op2_rI0 (Op2.or op2_catL (Op2.or op2_catT op2_catS (fun x y => (aCatT x y).or (aCatS x y)) ?_) (fun x y => (aCatL x y).or ((aCatT x y).or (aCatS x y))) ?_) aAdd ?_) ha hb
  · intro x y d h
    cases e : aCatT x y with
    | none => rw [e] at h; exact .inr h
    | some z => rw [e] at h; exact .inl h
  · intro x y d h
    cases e : aCatL x y with
    | none => rw [e] at h; exact .inr h
    | some z => rw [e] at h; exact .inl h
  · intro x y d h
    unfold aAdd at h
    split at h
    · exact .inl h
    · rename_i xs ys
      have h' : aCatL (.list xs) (.list ys) = some d := h
      exact .inr (by rw [h']; rfl)
    · rename_i xs ys
      have h' : aCatT (.tuple xs) (.tuple ys) = some d := h
      exact .inr (by rw [h']; rfl)
    · rename_i xs ys
      have h' : aCatS (.str xs) (.str ys) = some d := h
      exact .inr (by rw [h']; rfl)
    · cases h
end
end PF
namespace PF
open PySem PySem.Spec PyProof.Rows L2
section
variable {X : Cx} {a b c : Expr} {fa fb fc : Den} {pos : Pos}
def aSub : D → D → Option D := aInt2 (fun _ _ => true) (fun i j => i - j)
theorem e_sub (ha : PE X a (tE X.K .bw fa)) (hb : PE X b (tE X.K .bw fb)) : PE X (.BinOp a .Sub b pos) (tE X.K .ow (d2 aSub fa fb)) := e_bin op_sub op2_rI0 ha hb
def aMod : D → D → Option D := aInt2 (fun _ j => decide (0 < j)) (fun i j => i % j)
theorem e_mod (ha : PE X a (tE X.K .bw fa)) (hb : PE X b (tE X.K .bw fb)) : PE X (.BinOp a .Mod b pos) (tE X.K .ow (d2 aMod fa fb)) := e_bin op_mod (op2_rI fun _ _ h => of_decide_eq_true h) ha hb
def cDiv (_ j : Int) : Bool := decide (0 < j) && decide (j < 1073741824)
def aDiv : D → D → Option D := aInt2 cDiv (fun i j => i / j)
theorem e_div (ha : PE X a (tE X.K .bw fa)) (hb : PE X b (tE X.K .bw fb)) : PE X (.BinOp a .FloorDiv b pos) (tE X.K .ow (d2 aDiv fa fb)) := e_bin op_fdiv (op2_rI fun i j h => by
  unfold cDiv at h
  simp only [Bool.and_eq_true, decide_eq_true_eq] at h
  exact h) ha hb
def cPow (i j : Int) : Bool := decide (0 ≤ j) && decide (j ≤ 1000000) && decide (i.natAbs < 2 ^ 64)
def aPow : D → D → Option D := aInt2 cPow (fun i j => i ^ j.toNat)
theorem e_pow (ha : PE X a (tE X.K .bw fa)) (hb : PE X b (tE X.K .bw fb)) : PE X (.BinOp a .Pow b pos) (tE X.K .ow (d2 aPow fa fb)) := e_bin op_pow (op2_rI fun i j h => by
  unfold cPow at h
  simp only [Bool.and_eq_true, decide_eq_true_eq] at h
  exact ⟨h.1.1, h.1.2, h.2⟩) ha hb
def rRepR : R2 := fun x y H Q => ∃ l k xs, x = .ref l ∧ y = .int k ∧ Rd H l (.lst xs) ∧ -(2 ^ 63) ≤ k ∧ k < 2 ^ 63 ∧ xs.length * k.toNat ≤ sizeLine ∧
  ∀ p, H p = none → Q (.ref p) (upd H p (.lst (List.replicate k.toNat xs).flatten))
theorem op_repR : OpR X (binaryOp .Mult) rRepR := by
  intro pins s σ H x y v u Q I rx ry h
  obtain ⟨l, k, xs, rfl, rfl, hH, h1, h2, hz, q⟩ := h
  cases rx
  obtain ⟨t, rfl⟩ := ry
  obtain ⟨z, its, n, r, e⟩ := hH.ok I.hok
  have hl := r.length
  have hlen : its.toArray.size * k.toNat ≤ sizeLine := by rw [List.size_toArray, ← hl]; exact hz
  have hcap : ¬ its.toArray.size * k.toNat > (2 ^ 63 - 1) / 8 := by
    have : (sizeLine : Nat) ≤ (2 ^ 63 - 1) / 8 := by decide
    omega
  have hfit : ¬ (!Builtin.List.listFitsIndex k) = true := by
    rw [fitsIndex_both h1 h2]
    exact Bool.false_ne_true
  have hlong : ¬ Builtin.List.listTooLong (its.toArray.size * k.toNat) = true := by
    rw [notLongL hlen]
    exact Bool.false_ne_true
  have hnew : List.foldl (fun x1 x2 => x1 ++ x2) #[] (List.replicate (if its.toArray.isEmpty = true then 0 else k.toNat) its.toArray) = (List.replicate k.toNat its).flatten.toArray := by
    have f0 : ∀ m : Nat, List.foldl (fun x1 x2 => x1 ++ x2) #[] (List.replicate m its.toArray) = (List.replicate m its).flatten.toArray := fun m => by
      have := foldl_rep its m []
      rw [List.nil_append] at this
      exact this
    rw [f0]
    cases its with
    | nil => simp
    | cons a r' => rw [if_neg (by simp)]
  refine wpAny_binaryOp_repeat_ref (T := "list") (U := "int") (by decide) ⟨_, e, rfl⟩ (fun s' => typeIs_int s' k t) noFill_list_mul F.fills_int_mul F.slot_int_rmul repeat_list F.slot_int_index.lookup
    (call_meets F.slot_int_rmul (typeIs_int s k t) F.entry_int_rmul (F.args_int_rmul_2 _ _) (int___rmul___int_list k t l its.toArray n)
      ⟨e, rfl, ⟨_, e, rfl⟩, call_meets F.slot_list_mul ⟨_, e, rfl⟩ F.entry_list_mul (F.args_list_mul_2 _ _) (AutoListH.list___mul___list_int_3 l its.toArray n k t hfit hcap hlong) ⟨e, ?_⟩⟩)
  rw [hnew]
  exact ⟨.ref _, _, I.lnew (t' := s.toks) (r.rep k.toNat) (by rw [PyProof.Rows.lm_len_rep_flat, Nat.mul_comm]; exact hz), rfl, q _ I.fresh⟩
theorem tuple_mul1 (l : Addr) (items : Array Value) (n : Nat) (dd : Option Addr) (sl : Array (Option Value)) (u : Tok) :
    Meets (Builtin.«tuple.__mul__» ⟨[.ref l, .int 1 u], []⟩) (fun _ R s => s.heap.get? l = some { cls := .type "tuple", dict := dd, data := .seq items n, slots := sl } ∧
      R (.ok (.ret (Value.ref l))) s) :=
  .of_wp fun prog w A R s h => by
    obtain ⟨hp, g, d, tk, os⟩ := s
    obtain ⟨hl, h⟩ := h
    have f1 := AutoSeq1.idx_int
    wp_walk using wpAny_loadPart' hl
    first
      | exact ⟨_, rfl, h⟩
      | (refine wpAny_ite_true (decide_eq_true (by simp)) ?_
         wp_walk using wpAny_loadPart' hl
         exact ⟨_, rfl, h⟩)
def rRep1 (K : PySem.W.Frag) : R2 := fun x y H Q => ∃ l xs, x = .ref l ∧ y = .int 1 ∧ SqT K H l xs ∧ Q (.ref l) H
theorem op_rep1 : OpR X (binaryOp .Mult) (rRep1 X.K) := by
  intro pins s σ H x y v u Q I rx ry h
  obtain ⟨l, xs, rfl, rfl, hT, q⟩ := h
  cases rx
  obtain ⟨t, rfl⟩ := ry
  obtain ⟨its, r, ⟨⟨cls, dd, data, sl⟩, ho, hc, n, hd⟩, hs⟩ := I.tuple hT
  simp only at hc hd
  subst hc hd
  refine wpAny_binaryOp_repeat_ref (T := "tuple") (U := "int") (by decide) ⟨_, ho, rfl⟩ (fun s' => typeIs_int s' 1 t) noFill_tuple_mul F.fills_int_mul F.slot_int_rmul repeat_tuple F.slot_int_index.lookup
    (call_meets F.slot_int_rmul (typeIs_int s 1 t) F.entry_int_rmul (F.args_int_rmul_2 _ _) (int_rmul_tuple 1 t l its.toArray n dd sl)
      ⟨ho, rfl, ⟨_, ho, rfl⟩, call_meets F.slot_tuple_mul ⟨_, ho, rfl⟩ F.entry_tuple_mul (F.args_tuple_mul_2 _ _) (tuple_mul1 l its.toArray n dd sl t) ⟨ho, ?_⟩⟩)
  exact ⟨.ref l, H, I, rfl, q⟩
def aMul : D → D → Option D
  | .int i, .int j => if cMul i j = true then some (.int (i * j)) else none
  | .list xs, .int k => if k < 2 ^ 63 ∧ -(2 ^ 63) ≤ k ∧ xs.length * k.toNat ≤ sizeLine then some (.list (List.replicate k.toNat xs).flatten) else none
  | .tuple xs, .int k => if xs ≠ [] ∧ 1 ≤ k ∧ k ≤ 1000 ∧ xs.length ≤ 1000 then some (.tuple (List.replicate k.toNat xs).flatten) else none
  | _, _ => none
theorem e_mul (ha : PE X a (tE X.K .bw fa)) (hb : PE X b (tE X.K .bw fb)) : PE X (.BinOp a .Mult b pos) (tE X.K .ow (d2 aMul fa fb)) := by
  refine e_bin (op_mul.or (op_repR.or (op_rep1.or TN.op_repN))) (fun H G x y dx dy d Q gh rx ry e q => ?_) ha hb
  unfold aMul at e
  split at e
  · rename_i i j
    split at e
    · cases e
      rename_i hc
      cases rx.int
      cases ry.int
      exact .inl ⟨i, j, rfl, rfl, cMul_ok _ _ hc, q _ H G (Step.refl gh) (ow_int _)⟩
    · cases e
  · rename_i xs k
    split at e
    · cases e
      rename_i hc
      cases ry.int
      obtain ⟨l, vs, rfl, h1, r1⟩ := rx.lst gh
      refine .inr (.inl ⟨l, k, vs, rfl, rfl, h1, hc.2.1, hc.1, by rw [r1.length]; exact hc.2.2, fun p hp => ?_⟩)
      obtain ⟨s, r⟩ := ow_new gh hp (r1.rep k.toNat)
      exact q _ _ _ s r
    · cases e
  · rename_i xs k
    split at e
    · cases e
      rename_i hc
      cases ry.int
      obtain ⟨l, vs, rfl, h1, r1⟩ := rx.tup
      obtain ⟨h2, h3, h4, h5⟩ := hc
      by_cases hk : k = 1
      · subst hk
        refine .inr (.inr (.inl ⟨l, vs, rfl, rfl, .inl (rdM gh h1.rd), q _ _ _ (Step.refl gh) ?_⟩))
        have e1 : (List.replicate (1 : Int).toNat xs).flatten = xs := by simp
        rw [e1]
        exact Rp.tup h1 r1
      · refine .inr (.inr (.inr ⟨l, k, vs, rfl, rfl, .inl (rdM gh h1.rd), ?_, by omega, h4, by rw [r1.length]; exact h5, fun p o hp ho => ?_⟩))
        · intro z
          subst z
          cases r1
          exact h2 rfl
        · obtain ⟨s, r⟩ := tup_new gh hp ho (r1.rep k.toNat)
          exact q _ _ _ s r
    · cases e
  · cases e
def d1 (g : D → Option D) (f : Den) : Den := fun ρ => (f ρ).bind g
theorem d1_eq {g : D → Option D} {f : Den} {ρ : Env} {d : D} (h : d1 g f ρ = some d) : ∃ x, f ρ = some x ∧ g x = some d := by
  unfold d1 at h
  cases e : f ρ with
  | none => rw [e] at h; cases h
  | some x => rw [e] at h; exact ⟨x, rfl, h⟩
def aNeg : D → Option D
  | .int i => some (.int (-i))
  | _ => none
theorem e_neg (ha : PE X a (tE X.K .bw fa)) : PE X (.UnaryOp .USub a pos) (tE X.K .ow (d1 aNeg fa)) :=
  peW (pe_un un_neg ha) fun σ H Q ⟨H0, G0, G, ρ, d, ok, hf, q⟩ => by
    obtain ⟨x, hx, hg⟩ := d1_eq hf
    unfold aNeg at hg
    split at hg
    · rename_i i
      cases hg
      refine ⟨H0, G0, G, ρ, _, ok, hx, fun v H1 G1 s r => ?_⟩
      cases Rb.int r
      exact ⟨i, rfl, q _ _ _ s (ow_int _)⟩
    · cases hg
def isN : D → Bool
  | .none => true
  | _ => false
def aOrd (g : Int → Int → Bool) (gd : D → D → Bool) (x y : D) : Option D := match x, y with
  | .int i, .int j => some (.bool (g i j))
  | x, y => if SeqAt.shaped x = true ∧ SeqAt.shaped y = true ∧ PySem.W.alike x y = true ∧ isN x = false then some (.bool (gd x y)) else none
def rOrdD (K : PySem.W.Frag) (gd : D → D → Bool) : R2 := fun x y H Q => ∃ d e, Dp K H x d ∧ Dp K H y e ∧ SeqAt.shaped d = true ∧ SeqAt.shaped e = true ∧ PySem.W.alike d e = true ∧ d ≠ .none ∧ Q (.bl (gd d e)) H
theorem op2_ord {K : PySem.W.Frag} {g : Int → Int → Bool} {gd : D → D → Bool} : Op2 K (fun x y H Q => rI0 (fun i j => .bl (g i j)) x y H Q ∨ rOrdD K gd x y H Q) (aOrd g gd) .ow := fun H G x y dx dy d Q gh rx ry e q => by
  unfold aOrd at e
  split at e
  · cases e
    cases rx.int
    cases ry.int
    exact .inl ⟨_, _, rfl, rfl, q _ _ _ (Step.refl gh) (ow_bool _)⟩
  · split at e
    · rename_i h
      cases e
      exact .inr ⟨dx, dy, rx.dp h.1 gh, ry.dp h.2.1 gh, h.1, h.2.1, h.2.2.1, fun z => by rw [z] at h; exact absurd h.2.2.2 (by simp [isN]), q _ _ _ (Step.refl gh) (ow_bool _)⟩
    · cases e
theorem op_ltD (hu : X.A.units + 65 < cLine) : OpR X (compareOp .Lt) (rOrdD X.K PySem.W.dataLt) := by
  intro pins s σ H x y v u Q I rx ry h
  obtain ⟨d, e, hd, he, sd, se, ha, hn, q⟩ := h
  obtain ⟨as, r1⟩ := Dp.reads I d x v hd rx
  obtain ⟨bs, r2⟩ := Dp.reads I e y u he ry
  exact PySem.W.lt_data r1 r2 ha hn (SeqAt.room_of_shaped sd (by omega)) ⟨.bl _, H, I, rfl, q⟩
theorem op_gtD (hu : X.A.units + 65 < cLine) : OpR X (compareOp .Gt) (rOrdD X.K fun d e => PySem.W.dataLt e d) := by
  intro pins s σ H x y v u Q I rx ry h
  obtain ⟨d, e, hd, he, sd, se, ha, hn, q⟩ := h
  obtain ⟨as, r1⟩ := Dp.reads I d x v hd rx
  obtain ⟨bs, r2⟩ := Dp.reads I e y u he ry
  exact PySem.W.gt_data r1 r2 ha hn (SeqAt.room_of_shaped sd (by omega)) ⟨.bl _, H, I, rfl, q⟩
theorem op_leD (hu : X.A.units + 65 < cLine) : OpR X (compareOp .LtE) (rOrdD X.K fun d e => !PySem.W.dataLt e d) := by
  intro pins s σ H x y v u Q I rx ry h
  obtain ⟨d, e, hd, he, sd, se, ha, hn, q⟩ := h
  obtain ⟨as, r1⟩ := Dp.reads I d x v hd rx
  obtain ⟨bs, r2⟩ := Dp.reads I e y u he ry
  exact PySem.W.le_data r1 r2 ha hn (SeqAt.room_of_shaped sd (by omega)) ⟨.bl _, H, I, rfl, q⟩
theorem op_geD (hu : X.A.units + 65 < cLine) : OpR X (compareOp .GtE) (rOrdD X.K fun d e => !PySem.W.dataLt d e) := by
  intro pins s σ H x y v u Q I rx ry h
  obtain ⟨d, e, hd, he, sd, se, ha, hn, q⟩ := h
  obtain ⟨as, r1⟩ := Dp.reads I d x v hd rx
  obtain ⟨bs, r2⟩ := Dp.reads I e y u he ry
  exact PySem.W.ge_data r1 r2 ha hn (SeqAt.room_of_shaped sd (by omega)) ⟨.bl _, H, I, rfl, q⟩
def aEq (x y : D) : Option D := if SeqAt.shaped x = true ∧ SeqAt.shaped y = true then some (.bool (PyData.eqv x y)) else none
def isWT : D → Bool
  | .dict [(.tuple [], .none)] => true
  | _ => false
theorem isWT_eq {d : D} (h : isWT d = true) : d = .dict [(.tuple [], .none)] := by
  unfold isWT at h
  split at h
  · rfl
  · cases h
theorem Rb.wt {K : PySem.W.Frag} {H G : Hp} {v : V} (r : Rb K H G v (.dict [(.tuple [], .none)])) : Dp K H v (.tuple []) := by
  rcases r with r | ⟨xs, e, _⟩
  · cases r with
    | wtp h => exact .tup (h _) .nil
  · cases e
def aNe (x y : D) : Option D := if SeqAt.shaped x = true ∧ SeqAt.shaped y = true then some (.bool (!PyData.eqv x y)) else if isWT x = true ∧ SeqAt.shaped y = true then some (.bool (!PyData.eqv (.tuple []) y)) else none
theorem op2_eq {K : PySem.W.Frag} : Op2 K (rEqD K) aEq .ow := fun H G x y dx dy d Q gh rx ry e q => by
  unfold aEq at e
  split at e
  · rename_i h
    cases e
    exact ⟨dx, dy, rx.dp h.1 gh, ry.dp h.2 gh, h.1, h.2, q _ _ _ (Step.refl gh) (ow_bool _)⟩
  · cases e
theorem op2_ne {K : PySem.W.Frag} : Op2 K (rNeD K) aNe .ow := fun H G x y dx dy d Q gh rx ry e q => by
  unfold aNe at e
  split at e
  · rename_i h
    cases e
    exact ⟨dx, dy, rx.dp h.1 gh, ry.dp h.2 gh, h.1, h.2, q _ _ _ (Step.refl gh) (ow_bool _)⟩
  · split at e
    · rename_i h
      cases e
      have ed := isWT_eq h.1
      subst ed
      exact ⟨.tuple [], dy, rx.wt, ry.dp h.2 gh, rfl, h.2, q _ _ _ (Step.refl gh) (ow_bool _)⟩
    · cases e
def rInT (K : PySem.W.Frag) (n : Bool) : R2 := fun x y H Q => ∃ d ds, Dp K H x d ∧ Dp K H y (.tuple ds) ∧ SeqAt.shaped d = true ∧ SeqAt.shaped (.tuple ds) = true ∧ Q (.bl (if n = true then !ds.any fun z => PyData.eqv z d else ds.any fun z => PyData.eqv z d)) H
theorem op_inT (hu : X.A.units + 65 < cLine) : OpR X (compareOp .In) (rInT X.K false) := by
  intro pins s σ H x y v u Q I rx ry h
  obtain ⟨d, ds, hd, he, sd, se, q⟩ := h
  obtain ⟨as, r1⟩ := Dp.reads I d x v hd rx
  obtain ⟨bs, r2⟩ := Dp.reads I (.tuple ds) y u he ry
  exact SeqAt.in_tuple_reads r2 r1 (SeqAt.canLay_of_shaped se) (SeqAt.canLay_of_shaped sd) (room_in_shaped sd hu) ⟨.bl _, H, I, rfl, q⟩
theorem op_notInT (hu : X.A.units + 65 < cLine) : OpR X (compareOp .NotIn) (rInT X.K true) := by
  intro pins s σ H x y v u Q I rx ry h
  obtain ⟨d, ds, hd, he, sd, se, q⟩ := h
  obtain ⟨as, r1⟩ := Dp.reads I d x v hd rx
  obtain ⟨bs, r2⟩ := Dp.reads I (.tuple ds) y u he ry
  exact SeqAt.notIn_tuple_reads r2 r1 (SeqAt.canLay_of_shaped se) (SeqAt.canLay_of_shaped sd) (room_in_shaped sd hu) ⟨.bl _, H, I, rfl, q⟩
def sgnIn (n : Bool) : D → Str → Option D
  | .str ⟨⟨[c]⟩⟩, z => some (.bool (if n = true then !decide (c ∈ z.cps.toList) else decide (c ∈ z.cps.toList)))
  | _, _ => none
def aIn (n : Bool) : D → D → Option D
  | d, .list ds => if SeqAt.shaped d = true ∧ SeqAt.shaped (.list ds) = true then some (.bool (if n = true then !ds.any fun z => PyData.eqv z d else ds.any fun z => PyData.eqv z d)) else none
  | d, .tuple ds => if SeqAt.shaped d = true ∧ SeqAt.shaped (.tuple ds) = true then some (.bool (if n = true then !ds.any fun z => PyData.eqv z d else ds.any fun z => PyData.eqv z d)) else none
  | d, .dict ((.bool true, .none) :: kvs) => (keyT d).map fun k => .bool (if n = true then !(getKV kvs k).isSome else (getKV kvs k).isSome)
  | d, .dict [(.tuple [], .none)] => if SeqAt.shaped d = true then some (.bool n) else none
  | d, .str z => sgnIn n d z
  | _, _ => none
def rSgn (n : Bool) : R2 := fun x y H Q => ∃ (c : Nat) (z : Str), x = .str ⟨#[c]⟩ ∧ y = .str z ∧ Q (.bl (if n = true then !decide (c ∈ z.cps.toList) else decide (c ∈ z.cps.toList))) H
theorem sgn_snd {K : PySem.W.Frag} {n : Bool} {H G : Hp} {x y : V} {dx : D} {z : Str} {d : D} {Q : VK} (gh : Same G H) (rx : Rb K H G x dx) (ry : Rb K H G y (.str z)) (e : sgnIn n dx z = some d) (q : ∀ v H' G', Step K H G H' G' → Res K H H' G' v d .ow → Q v H') : rSgn n x y H Q := by
  unfold sgnIn at e
  split at e
  · cases e
    cases rx.str
    cases ry.str
    exact ⟨_, z, rfl, rfl, q _ _ _ (Step.refl gh) (ow_bool _)⟩
  · cases e
theorem Rb.noL {K : PySem.W.Frag} {H G : Hp} {v : V} {d : D} (r : Rb K H G v d) (h : ∀ xs, d ≠ .list xs) : Rp K G v d := by
  rcases r with r | ⟨xs, e, _⟩
  · exact r
  · exact absurd e (h xs)
theorem in_n {K : PySem.W.Frag} {n : Bool} {H G : Hp} {x y : V} {dx : D} {kvs : List (D × D)} {k : NestedKey} {Q : VK} (gh : Same G H) (rx : Rb K H G x dx) (ry : Rb K H G y (.dict ((.bool true, .none) :: kvs))) (hk : keyT dx = some k)
    (q : Q (.bl (if n = true then !(getKV kvs k).isSome else (getKV kvs k).isSome)) H) : rInN n x y H Q :=
  atD_of gh (ry.noL fun _ z => nomatch z) (rx.noL fun _ z => by obtain ⟨⟨ds, e⟩, _⟩ := keyT_tup hk; rw [e] at z; cases z) hk fun a ep xs b r => by
    rw [kv_some r]
    exact q
theorem op2_in {K : PySem.W.Frag} : Op2 K (fun x y H Q => rInD K x y H Q ∨ rInT K false x y H Q ∨ rInN false x y H Q ∨ rSgn false x y H Q) (aIn false) .ow := fun H G x y dx dy d Q gh rx ry e q => by
  unfold aIn at e
  split at e
  · split at e
    · rename_i h
      cases e
      exact .inl ⟨dx, _, rx.dp h.1 gh, ry.dp h.2 gh, h.1, h.2, q _ _ _ (Step.refl gh) (ow_bool _)⟩
    · cases e
  · split at e
    · rename_i h
      cases e
      exact .inr (.inl ⟨dx, _, rx.dp h.1 gh, ry.dp h.2 gh, h.1, h.2, q _ _ _ (Step.refl gh) (ow_bool _)⟩)
    · cases e
  · obtain ⟨k, hk, e⟩ := Option.map_eq_some_iff.mp e
    subst e
    exact .inr (.inr (.inl (in_n gh rx ry hk (q _ _ _ (Step.refl gh) (ow_bool _)))))
  · split at e
    · rename_i h
      cases e
      exact .inr (.inl ⟨dx, [], rx.dp h gh, ry.wt, h, rfl, q _ _ _ (Step.refl gh) (ow_bool _)⟩)
    · cases e
  · exact .inr (.inr (.inr (sgn_snd gh rx ry e q)))
  · cases e
theorem op2_notIn {K : PySem.W.Frag} : Op2 K (fun x y H Q => rNotInD K x y H Q ∨ rInT K true x y H Q ∨ rInN true x y H Q ∨ rSgn true x y H Q) (aIn true) .ow := fun H G x y dx dy d Q gh rx ry e q => by
  unfold aIn at e
  split at e
  · split at e
    · rename_i h
      cases e
      exact .inl ⟨dx, _, rx.dp h.1 gh, ry.dp h.2 gh, h.1, h.2, q _ _ _ (Step.refl gh) (ow_bool _)⟩
    · cases e
  · split at e
    · rename_i h
      cases e
      exact .inr (.inl ⟨dx, _, rx.dp h.1 gh, ry.dp h.2 gh, h.1, h.2, q _ _ _ (Step.refl gh) (ow_bool _)⟩)
    · cases e
  · obtain ⟨k, hk, e⟩ := Option.map_eq_some_iff.mp e
    subst e
    exact .inr (.inr (.inl (in_n gh rx ry hk (q _ _ _ (Step.refl gh) (ow_bool _)))))
  · split at e
    · rename_i h
      cases e
      exact .inr (.inl ⟨dx, [], rx.dp h gh, ry.wt, h, rfl, q _ _ _ (Step.refl gh) (ow_bool _)⟩)
    · cases e
  · exact .inr (.inr (.inr (sgn_snd gh rx ry e q)))
  · cases e
def aIsN (n : Bool) : D → D → Option D
  | d, .none => some (.bool (match d with | .none => !n | _ => n))
  | .bool a, .bool b => some (.bool (if n = true then !decide (a = b) else decide (a = b)))
  | .str _, .bool _ => some (.bool n)
  | .tuple _, .bool _ => some (.bool n)
  | .list _, .bool _ => some (.bool n)
  | _, _ => none
def rIsO (n : Bool) : R2 := fun x y H Q => ∃ b : Bool, y = .bl b ∧ ((∃ z, x = .str z) ∨ ∃ a, x = .ref a) ∧ Q (.bl n) H
theorem op_isO {X : Cx} : OpR X (compareOp .Is) (rIsO false) := by
  intro pins s σ H x y v u Q I rx ry h
  obtain ⟨b, rfl, hx, q⟩ := h
  cases (show u = Value.bool b from ry)
  rcases hx with ⟨z, rfl⟩ | ⟨a, rfl⟩
  · obtain ⟨t, rfl⟩ := rx
    exact wpAny_is_other rfl (fun z => nomatch z) ⟨.bl false, H, I, rfl, q⟩
  · cases (show v = Value.ref a from rx)
    exact wpAny_is_other rfl (fun z => nomatch z) ⟨.bl false, H, I, rfl, q⟩
theorem op_notO {X : Cx} : OpR X (compareOp .IsNot) (rIsO true) := by
  intro pins s σ H x y v u Q I rx ry h
  obtain ⟨b, rfl, hx, q⟩ := h
  cases (show u = Value.bool b from ry)
  rcases hx with ⟨z, rfl⟩ | ⟨a, rfl⟩
  · obtain ⟨t, rfl⟩ := rx
    exact wpAny_isNot_other rfl (fun z => nomatch z) ⟨.bl true, H, I, rfl, q⟩
  · cases (show v = Value.ref a from rx)
    exact wpAny_isNot_other rfl (fun z => nomatch z) ⟨.bl true, H, I, rfl, q⟩
theorem Rb.isNone {K : PySem.W.Frag} {H G : Hp} {v : V} {d : D} (r : Rb K H G v d) : decide (v = .non) = (match d with | .none => true | _ => false) := by
  rcases r with r | ⟨xs, rfl, a, vs, rfl, _⟩
  · cases r <;> first | rfl | exact decide_eq_false (by assumption)
  · rfl
theorem op2_isN {K : PySem.W.Frag} : Op2 K (fun x y H Q => (y = .non ∧ Q (.bl (decide (x = .non))) H) ∨ (rIsB x y H Q ∨ rIsO false x y H Q)) (aIsN false) .ow := fun H G x y dx dy d Q gh rx ry e q => by
  unfold aIsN at e
  split at e
  · cases e
    cases ry.none
    refine .inl ⟨rfl, ?_⟩
    rw [rx.isNone]
    have := q (.bl (match dx with | .none => true | _ => false)) H G (Step.refl gh)
    cases dx <;> exact this (ow_bool _)
  · cases e
    cases rx.bool
    cases ry.bool
    exact .inr (.inl ⟨_, _, rfl, rfl, q _ _ _ (Step.refl gh) (ow_bool _)⟩)
  · cases e
    cases rx.str
    cases ry.bool
    exact .inr (.inr ⟨_, rfl, .inl ⟨_, rfl⟩, q _ _ _ (Step.refl gh) (ow_bool _)⟩)
  · cases e
    obtain ⟨a, vs, rfl, _, _⟩ := rx.tup
    cases ry.bool
    exact .inr (.inr ⟨_, rfl, .inr ⟨_, rfl⟩, q _ _ _ (Step.refl gh) (ow_bool _)⟩)
  · cases e
    obtain ⟨a, vs, rfl, _, _⟩ := rx.lst gh
    cases ry.bool
    exact .inr (.inr ⟨_, rfl, .inr ⟨_, rfl⟩, q _ _ _ (Step.refl gh) (ow_bool _)⟩)
  · cases e
theorem op2_notN {K : PySem.W.Frag} : Op2 K (fun x y H Q => (y = .non ∧ Q (.bl (!decide (x = .non))) H) ∨ (rNotB x y H Q ∨ rIsO true x y H Q)) (aIsN true) .ow := fun H G x y dx dy d Q gh rx ry e q => by
  unfold aIsN at e
  split at e
  · cases e
    cases ry.none
    refine .inl ⟨rfl, ?_⟩
    rw [rx.isNone]
    have := q (.bl (!(match dx with | .none => true | _ => false))) H G (Step.refl gh)
    cases dx <;> exact this (ow_bool _)
  · cases e
    cases rx.bool
    cases ry.bool
    exact .inr (.inl ⟨_, _, rfl, rfl, q _ _ _ (Step.refl gh) (ow_bool _)⟩)
  · cases e
    cases rx.str
    cases ry.bool
    exact .inr (.inr ⟨_, rfl, .inl ⟨_, rfl⟩, q _ _ _ (Step.refl gh) (ow_bool _)⟩)
  · cases e
    obtain ⟨a, vs, rfl, _, _⟩ := rx.tup
    cases ry.bool
    exact .inr (.inr ⟨_, rfl, .inr ⟨_, rfl⟩, q _ _ _ (Step.refl gh) (ow_bool _)⟩)
  · cases e
    obtain ⟨a, vs, rfl, _, _⟩ := rx.lst gh
    cases ry.bool
    exact .inr (.inr ⟨_, rfl, .inr ⟨_, rfl⟩, q _ _ _ (Step.refl gh) (ow_bool _)⟩)
  · cases e
def aCmp : CmpOp → D → D → Option D
  | .Eq => aEq
  | .NotEq => aNe
  | .Lt => aOrd (fun i j => decide (i < j)) PySem.W.dataLt
  | .LtE => aOrd (fun i j => decide (i ≤ j)) fun d e => !PySem.W.dataLt e d
  | .Gt => aOrd (fun i j => decide (j < i)) fun d e => PySem.W.dataLt e d
  | .GtE => aOrd (fun i j => decide (j ≤ i)) fun d e => !PySem.W.dataLt d e
  | .Is => aIsN false
  | .IsNot => aIsN true
  | .In => aIn false
  | .NotIn => aIn true
theorem op_inS {X : Cx} : OpR X (compareOp .In) (rSgn false) := L2.op_in_sign
theorem op_notInS {X : Cx} : OpR X (compareOp .NotIn) (rSgn true) := L2.op_notIn_sign
theorem cmp_any (hu : X.A.units + 65 < cLine) (op : CmpOp) : ∃ r, OpR X (compareOp op) r ∧ Op2 X.K r (aCmp op) .ow := by
  cases op with
  | Eq => exact ⟨_, op_eqD (by omega), op2_eq⟩
  | NotEq => exact ⟨_, op_neD (by omega), op2_ne⟩
  | Lt => exact ⟨_, op_lt.or (op_ltD hu), op2_ord⟩
  | LtE => exact ⟨_, op_le.or (op_leD hu), op2_ord⟩
  | Gt => exact ⟨_, op_gt.or (op_gtD hu), op2_ord⟩
  | GtE => exact ⟨_, op_ge.or (op_geD hu), op2_ord⟩
  | Is => exact ⟨_, op_isN.or (op_isBl.or op_isO), op2_isN⟩
  | IsNot => exact ⟨_, op_notN.or (op_notBl.or op_notO), op2_notN⟩
  | In => exact ⟨_, (op_inD hu).or ((op_inT hu).or ((op_inN hu).or op_inS)), op2_in⟩
  | NotIn => exact ⟨_, (op_notInD hu).or ((op_notInT hu).or ((op_notInN hu).or op_notInS)), op2_notIn⟩
theorem e_cmp1 {op : CmpOp} (hu : X.A.units + 65 < cLine) (hm : behindInMarks op b = false) (ha : PE X a (tE X.K .bw fa)) (hb : PE X b (tE X.K .bw fb)) : PE X (.Compare a [op] [b] pos) (tE X.K .ow (d2 (aCmp op) fa fb)) := by
  obtain ⟨r, h1, h2⟩ := cmp_any hu op
  exact e_cmp h1 h2 hm ha hb
def dT (f : Den) : Env → Option Bool := fun ρ => match f ρ with | some (.bool b) => some b | _ => none
theorem dT_eq {f : Den} {ρ : Env} {b : Bool} (h : dT f ρ = some b) : f ρ = some (.bool b) := by
  unfold dT at h
  split at h
  · cases h; assumption
  · cases h
theorem t_cmp1 {op : CmpOp} (hu : X.A.units + 65 < cLine) (hm : behindInMarks op b = false) (ha : PE X a (tE X.K .bw fa)) (hb : PE X b (tE X.K .bw fb)) : PT X (.Compare a [op] [b] pos) (tT X.K (dT (d2 (aCmp op) fa fb))) := by
  obtain ⟨r, h1, h2⟩ := cmp_any hu op
  refine ptW (pt_cmpR h1 ha hb hm) fun σ H Q ⟨H0, G0, G, ρ, k, ok, hf, q⟩ => ?_
  refine two (a := a) (b := b) h2 ⟨H0, G0, G, ρ, _, ok, dT_eq hf, fun v H' G' s r => ?_⟩
  cases (show Rp X.K G' v (.bool k) from r)
  exact ⟨k, rfl, q _ _ s⟩
def dChain (g g' : D → D → Option D) (f1 f2 f3 : Den) : Den := fun ρ => (f1 ρ).bind fun x => (f2 ρ).bind fun y => match g x y with
  | some (.bool true) => (f3 ρ).bind fun z => g' y z
  | some (.bool false) => some (.bool false)
  | _ => none
theorem chain_read {op op' : CmpOp} {r r' : R2} (h2 : Op2 X.K r (aCmp op) .ow) (h4 : Op2 X.K r' (aCmp op') .ow) {σ : St} {H : Hp} {Q : VK} (h : tE X.K .ow (dChain (aCmp op) (aCmp op') fa fb fc) σ H Q) :
    tChain r r' (tE X.K .bw fa) (tE X.K .bw fb) (tE X.K .bw fc) σ H Q := by
  obtain ⟨H0, G0, G, ρ, d, ok, hf, q⟩ := h
  unfold dChain at hf
  cases ea : fa ρ with
  | none => rw [ea] at hf; cases hf
  | some x =>
    rw [ea] at hf
    cases eb : fb ρ with
    | none => rw [eb] at hf; cases hf
    | some y =>
      rw [eb] at hf
      simp only [Option.bind_some] at hf
      refine ⟨H0, G0, G, ρ, x, ok, ea, fun v H1 G1 s1 r1 => ⟨H0, G0, G1, ρ, y, ok.step s1, eb, fun u H2 G2 s2 r2 => ?_⟩⟩
      split at hf
      · rename_i e1
        refine h2 H2 G2 v u x y _ _ s2.gh (Rb.step r1 s2) r2 e1 fun z H3 G3 s3 r3 => ?_
        cases (show Rp X.K G3 z (.bool true) from r3)
        refine ⟨true, rfl, ?_⟩
        refine iteT ?_
        cases ec : fc ρ with
        | none => rw [ec] at hf; cases hf
        | some w =>
          rw [ec] at hf
          refine ⟨H0, G0, G3, ρ, w, (ok.step (s1.trans s2)).step s3, ec, fun t H4 G4 s4 r4 => ?_⟩
          refine h4 H4 G4 u t y w d Q s4.gh (Rb.step (Rb.step r2 s3) s4) r4 hf fun v' H' G' s r => ?_
          have st := ((s1.trans s2).trans s3).trans s4
          exact q v' H' G' (st.trans s) (Res.back st r)
      · rename_i e1
        cases hf
        refine h2 H2 G2 v u x y _ _ s2.gh (Rb.step r1 s2) r2 e1 fun z H3 G3 s3 r3 => ?_
        cases (show Rp X.K G3 z (.bool false) from r3)
        refine ⟨false, rfl, ?_⟩
        refine iteF ?_
        exact q _ _ _ ((s1.trans s2).trans s3) (ow_bool _)
      · cases hf
theorem e_chain {op op' : CmpOp} (hu : X.A.units + 65 < cLine) (hm : lastMarks [op, op'] [b, c] = false) (ha : PE X a (tE X.K .bw fa)) (hb : PE X b (tE X.K .bw fb)) (hc : PE X c (tE X.K .bw fc)) : PE X (.Compare a [op, op'] [b, c] pos) (tE X.K .ow (dChain (aCmp op) (aCmp op') fa fb fc)) := by
  obtain ⟨r, h1, h2⟩ := cmp_any hu op
  obtain ⟨r', h3, h4⟩ := cmp_any hu op'
  exact peW (pe_chain h1 h3 ha hb hc hm) fun σ H Q h => chain_read h2 h4 h
theorem t_chain {op op' : CmpOp} (hu : X.A.units + 65 < cLine) (hm : lastMarks [op, op'] [b, c] = false) (ha : PE X a (tE X.K .bw fa)) (hb : PE X b (tE X.K .bw fb)) (hc : PE X c (tE X.K .bw fc)) : PT X (.Compare a [op, op'] [b, c] pos) (tT X.K (dT (dChain (aCmp op) (aCmp op') fa fb fc))) := by
  obtain ⟨r, h1, h2⟩ := cmp_any hu op
  obtain ⟨r', h3, h4⟩ := cmp_any hu op'
  refine ptW (pt_chain h1 h3 ha hb hc hm) fun σ H Q ⟨H0, G0, G, ρ, k, ok, hf, q⟩ => ?_
  refine chain_read h2 h4 ⟨H0, G0, G, ρ, _, ok, dT_eq hf, fun v H' G' s r => ?_⟩
  cases (show Rp X.K G' v (.bool k) from r)
  exact ⟨k, rfl, q _ _ s⟩
def dNot (f : Den) : Den := fun ρ => match f ρ with | some (.bool b) => some (.bool (!b)) | _ => none
def dAnd (f g : Den) : Den := fun ρ => match f ρ with | some (.bool true) => g ρ | some (.bool false) => some (.bool false) | _ => none
def dOr (f g : Den) : Den := fun ρ => match f ρ with | some (.bool true) => some (.bool true) | some (.bool false) => g ρ | _ => none
def dIf (c f g : Den) : Den := fun ρ => match c ρ with | some (.bool true) => f ρ | some (.bool false) => g ρ | _ => none
theorem t_val {e : Expr} {f : Den} (h : PE X e (tE X.K .fz f)) (he : ∀ whole, isTrue e X.env whole = (do let v ← whole; standAt e.pos; holding [v] (truthy v))) : PT X e (tT X.K (dT f)) :=
  ptW (pt_val h he) fun σ H Q ⟨H0, G0, G, ρ, k, ok, hf, q⟩ => ⟨H0, G0, G, ρ, _, ok, dT_eq hf, fun v H' G' s r => by
    cases (show Rp X.K G' v (.bool k) from r)
    exact ⟨k, rfl, q _ _ s⟩⟩
theorem e_not (ha : PE X a (tE X.K .fz fa)) : PE X (.UnaryOp .Not a pos) (tE X.K .ow (dNot fa)) :=
  peW (pe_not ha) fun σ H Q ⟨H0, G0, G, ρ, d, ok, hf, q⟩ => by
    unfold dNot at hf
    split at hf
    · rename_i b e
      cases hf
      refine ⟨H0, G0, G, ρ, _, ok, e, fun v H' G' s r => ?_⟩
      cases (show Rp X.K G' v (.bool b) from r)
      exact ⟨b, rfl, q _ _ _ s (ow_bool _)⟩
    · cases hf
theorem t_not (ha : PT X a (tT X.K (dT fa))) : PT X (.UnaryOp .Not a pos) (tT X.K (dT (dNot fa))) :=
  ptW (pt_not ha) fun σ H Q ⟨H0, G0, G, ρ, k, ok, hf, q⟩ => by
    have hf := dT_eq hf
    unfold dNot at hf
    split at hf
    · rename_i b e
      cases hf
      exact ⟨H0, G0, G, ρ, b, ok, by unfold dT; rw [e], fun H' G' s => q _ _ s⟩
    · cases hf
theorem e_and {rest : List Expr} {f g : Den} (ha : PE X a (tE X.K .fz f)) (hb : PE X (.BoolOp .And (b :: rest) pos) (tE X.K .fz g)) : PE X (.BoolOp .And (a :: b :: rest) pos) (tE X.K .fz (dAnd f g)) :=
  peW (pe_and ha hb) fun σ H Q ⟨H0, G0, G, ρ, d, ok, hf, q⟩ => by
    unfold dAnd at hf
    split at hf
    · rename_i e
      refine ⟨H0, G0, G, ρ, _, ok, e, fun v H' G' s r => ?_⟩
      cases (show Rp X.K G' v (.bool true) from r)
      refine ⟨true, rfl, ?_⟩
      refine iteT ?_
      exact ⟨H0, G0, G', ρ, d, ok.step s, hf, fun v2 H2 G2 s2 r2 => q v2 H2 G2 (s.trans s2) r2⟩
    · rename_i e
      cases hf
      refine ⟨H0, G0, G, ρ, _, ok, e, fun v H' G' s r => ?_⟩
      cases (show Rp X.K G' v (.bool false) from r)
      refine ⟨false, rfl, ?_⟩
      refine iteF ?_
      exact q _ _ _ s (.bl _)
    · cases hf
theorem e_or {rest : List Expr} {f g : Den} (ha : PE X a (tE X.K .fz f)) (hb : PE X (.BoolOp .Or (b :: rest) pos) (tE X.K .fz g)) : PE X (.BoolOp .Or (a :: b :: rest) pos) (tE X.K .fz (dOr f g)) :=
  peW (pe_or ha hb) fun σ H Q ⟨H0, G0, G, ρ, d, ok, hf, q⟩ => by
    unfold dOr at hf
    split at hf
    · rename_i e
      cases hf
      refine ⟨H0, G0, G, ρ, _, ok, e, fun v H' G' s r => ?_⟩
      cases (show Rp X.K G' v (.bool true) from r)
      refine ⟨true, rfl, ?_⟩
      refine iteT ?_
      exact q _ _ _ s (.bl _)
    · rename_i e
      refine ⟨H0, G0, G, ρ, _, ok, e, fun v H' G' s r => ?_⟩
      cases (show Rp X.K G' v (.bool false) from r)
      refine ⟨false, rfl, ?_⟩
      refine iteF ?_
      exact ⟨H0, G0, G', ρ, d, ok.step s, hf, fun v2 H2 G2 s2 r2 => q v2 H2 G2 (s.trans s2) r2⟩
    · cases hf
theorem w_and {rest : List Expr} {f g : Den} (ha : PT X a (tT X.K (dT f))) (hb : PW X (.BoolOp .And (b :: rest) pos) (tT X.K (dT g))) : PW X (.BoolOp .And (a :: b :: rest) pos) (tT X.K (dT (dAnd f g))) :=
  pwW (pw_and ha hb) fun σ H Q ⟨H0, G0, G, ρ, k, ok, hf, q⟩ => by
    have hf := dT_eq hf
    unfold dAnd at hf
    split at hf
    · rename_i e
      refine ⟨H0, G0, G, ρ, true, ok, by unfold dT; rw [e], fun H' G' s => ?_⟩
      refine iteT ?_
      exact ⟨H0, G0, G', ρ, k, ok.step s, by unfold dT; rw [hf], fun H2 G2 s2 => q H2 G2 (s.trans s2)⟩
    · rename_i e
      cases hf
      refine ⟨H0, G0, G, ρ, false, ok, by unfold dT; rw [e], fun H' G' s => ?_⟩
      refine iteF ?_
      exact q _ _ s
    · cases hf
theorem w_or {rest : List Expr} {f g : Den} (ha : PT X a (tT X.K (dT f))) (hb : PW X (.BoolOp .Or (b :: rest) pos) (tT X.K (dT g))) : PW X (.BoolOp .Or (a :: b :: rest) pos) (tT X.K (dT (dOr f g))) :=
  pwW (pw_or ha hb) fun σ H Q ⟨H0, G0, G, ρ, k, ok, hf, q⟩ => by
    have hf := dT_eq hf
    unfold dOr at hf
    split at hf
    · rename_i e
      cases hf
      refine ⟨H0, G0, G, ρ, true, ok, by unfold dT; rw [e], fun H' G' s => ?_⟩
      refine iteT ?_
      exact q _ _ s
    · rename_i e
      refine ⟨H0, G0, G, ρ, false, ok, by unfold dT; rw [e], fun H' G' s => ?_⟩
      refine iteF ?_
      exact ⟨H0, G0, G', ρ, k, ok.step s, by unfold dT; rw [hf], fun H2 G2 s2 => q H2 G2 (s.trans s2)⟩
    · cases hf
theorem e_if (hc : PT X c (tT X.K (dT fc))) (ha : PE X a (tE X.K .fz fa)) (hb : PE X b (tE X.K .fz fb)) : PE X (.IfExp c a b pos) (tE X.K .fz (dIf fc fa fb)) :=
  peW (pe_ifExp hc ha hb) fun σ H Q ⟨H0, G0, G, ρ, d, ok, hf, q⟩ => by
    unfold dIf at hf
    split at hf
    · rename_i e
      refine ⟨H0, G0, G, ρ, true, ok, by unfold dT; rw [e], fun H' G' s => ?_⟩
      refine iteT ?_
      exact ⟨H0, G0, G', ρ, d, ok.step s, hf, fun v2 H2 G2 s2 r2 => q v2 H2 G2 (s.trans s2) r2⟩
    · rename_i e
      refine ⟨H0, G0, G, ρ, false, ok, by unfold dT; rw [e], fun H' G' s => ?_⟩
      refine iteF ?_
      exact ⟨H0, G0, G', ρ, d, ok.step s, hf, fun v2 H2 G2 s2 r2 => q v2 H2 G2 (s.trans s2) r2⟩
    · cases hf
end
end PF
namespace PF
open PySem PySem.Spec PyProof.Rows L2
section
variable {X : Cx} {a b c e : Expr} {es : List Expr} {fa fb fc f : Den} {fs : List Den} {pos p : Pos}
def dArgs : List Den → Env → Option (List D)
  | [], _ => some []
  | f :: fs, ρ => (f ρ).bind fun x => (dArgs fs ρ).bind fun xs => some (x :: xs)
theorem dArgs_cons {ρ : Env} {ds : List D} (h : dArgs (f :: fs) ρ = some ds) : ∃ x xs, f ρ = some x ∧ dArgs fs ρ = some xs ∧ ds = x :: xs := by
  unfold dArgs at h
  cases e1 : f ρ with
  | none => rw [e1] at h; cases h
  | some x =>
    rw [e1] at h
    cases e2 : dArgs fs ρ with
    | none => rw [e2] at h; cases h
    | some xs =>
      rw [e2] at h
      cases h
      exact ⟨x, xs, rfl, rfl, rfl⟩
theorem dArgs_len : ∀ {fs : List Den} {ρ : Env} {ds : List D}, dArgs fs ρ = some ds → ds.length = fs.length
  | [], _, _, h => by cases h; rfl
  | f :: fs, ρ, _, h => by
    obtain ⟨x, xs, _, h2, rfl⟩ := dArgs_cons h
    simp [dArgs_len h2]
def isStar : Expr → Bool
  | .Starred _ _ => true
  | _ => false
theorem star_ok (h : isStar e = false) (env : PySem.Env) : starEach (e :: es) env = (false, eval e env) :: starEach es env := by
  cases e <;> first | rfl | (exact absurd h (by simp [isStar]))
theorem a_nil : PA X [] (tA X.K (dArgs [])) := paW pa_nil fun σ H Q ⟨H0, G0, G, ρ, ds, ok, hf, q⟩ => by
  cases hf
  exact q [] H G (Step.refl ok.gh) .nil
theorem a_cons (hs : isStar e = false) (ha : PE X e (tE X.K .fz f)) (hr : PA X es (tA X.K (dArgs fs))) : PA X (e :: es) (tA X.K (dArgs (f :: fs))) :=
  paW (pa_cons ha hr (star_ok hs _)) fun σ H Q ⟨H0, G0, G, ρ, ds, ok, hf, q⟩ => by
    obtain ⟨x, xs, h1, h2, rfl⟩ := dArgs_cons hf
    refine ⟨H0, G0, G, ρ, x, ok, h1, fun v H1 G1 s1 r1 => ⟨H0, G0, G1, ρ, xs, ok.step s1, h2, fun vs H2 G2 s2 r2 => ?_⟩⟩
    exact q (v :: vs) H2 G2 (s1.trans s2) (.cons (Rp.mono s2.gg r1) r2)
theorem ab_nil : PA X [] (tAb X.K (dArgs [])) := paW pa_nil fun σ H Q ⟨H0, G0, G, ρ, ds, ok, hf, q⟩ => by
  cases hf
  exact q [] H G (Step.refl ok.gh) .nil
theorem ab_cons (hs : isStar e = false) (ha : PE X e (tE X.K .bw f)) (hr : PA X es (tAb X.K (dArgs fs))) : PA X (e :: es) (tAb X.K (dArgs (f :: fs))) :=
  paW (pa_cons ha hr (star_ok hs _)) fun σ H Q ⟨H0, G0, G, ρ, ds, ok, hf, q⟩ => by
    obtain ⟨x, xs, h1, h2, rfl⟩ := dArgs_cons hf
    refine ⟨H0, G0, G, ρ, x, ok, h1, fun v H1 G1 s1 r1 => ⟨H0, G0, G1, ρ, xs, ok.step s1, h2, fun vs H2 G2 s2 r2 => ?_⟩⟩
    exact q (v :: vs) H2 G2 (s1.trans s2) (.cons (Rb.step r1 s2) r2)
def dTup (fs : List Den) : Den := fun ρ => (dArgs fs ρ).map .tuple
def dLst (fs : List Den) : Den := fun ρ => (dArgs fs ρ).map .list
theorem e_tup {k : Nat} (hl : fs.length ≤ 1000) (h : PA X es (tA X.K (dArgs fs))) : PE X (.Tuple es k pos) (tE X.K .ow (dTup fs)) :=
  peW (TN.pe_tupN h) fun σ H Q ⟨H0, G0, G, ρ, d, ok, hf, q⟩ => by
    unfold dTup at hf
    cases e1 : dArgs fs ρ with
    | none => rw [e1] at hf; cases hf
    | some ds =>
      rw [e1] at hf
      cases hf
      refine ⟨H0, G0, G, ρ, ds, ok, e1, fun vs H1 G1 s r => ⟨?_, fun p o hp ho => ?_⟩⟩
      · rw [r.length, dArgs_len e1]
        exact Nat.le_of_lt (small1000 hl)
      · obtain ⟨s2, r2⟩ := tup_new s.gh hp ho r
        exact q _ _ _ (s.trans s2) (Res.back s r2)
theorem e_lst (hl : fs.length ≤ 1000) (h : PA X es (tA X.K (dArgs fs))) : PE X (.List es pos) (tE X.K .ow (dLst fs)) :=
  peW (pe_lst h) fun σ H Q ⟨H0, G0, G, ρ, d, ok, hf, q⟩ => by
    unfold dLst at hf
    cases e1 : dArgs fs ρ with
    | none => rw [e1] at hf; cases hf
    | some ds =>
      rw [e1] at hf
      cases hf
      refine ⟨H0, G0, G, ρ, ds, ok, e1, fun vs H1 G1 s r => ⟨?_, fun p hp => ?_⟩⟩
      · rw [r.length, dArgs_len e1]
        exact Nat.le_of_lt (small1000 hl)
      · obtain ⟨s2, r2⟩ := ow_new s.gh hp r
        exact q _ _ _ (s.trans s2) (Res.back s r2)
def aIx : D → D → Option D
  | .list ds, .int i => atI ds i
  | .tuple ds, .int i => atI ds i
  | .str z, .int i => if z.length ≤ sizeLine then (atI z.cps.toList i).map fun c => .str ⟨#[c]⟩ else none
  | .dict ((.list [], .none) :: r), .int i => atI (r.map (·.1)) i
  | .dict ((.bool true, .none) :: kvs), d => (keyT d).bind (getKV kvs)
  | _, _ => none
theorem atI_rel {K : PySem.W.Frag} {G : Hp} {vs : List V} {ds : List D} (r : RpAll K G vs ds) {i : Int} {d : D} (h : atI ds i = some d) : ∃ v, atI vs i = some v ∧ Rp K G v d := by
  unfold atI at h ⊢
  rw [r.length]
  cases e : ixN ds.length i with
  | none => rw [e] at h; cases h
  | some j =>
    rw [e] at h
    exact r.get j h
theorem Rb.scr {K : PySem.W.Frag} {H G : Hp} {v : V} {r : List (D × D)} (h : Rb K H G v (.dict ((.list [], .none) :: r))) : ∃ (a : Addr) (ns : List Int), v = .ref a ∧ r = ns.map (fun n => (PyData.int n, PyData.none)) ∧ SqL K G a (ns.map V.int) := by
  rcases h with h | ⟨xs, e, _⟩
  · generalize hd : (PyData.dict ((.list [], .none) :: r)) = d at h
    cases h with
    | scr h =>
      injection hd with hd
      injection hd with _ hd
      exact ⟨_, _, rfl, hd, h.sq⟩
    | _ => cases hd
  · cases e
theorem op2_ix {K : PySem.W.Frag} : Op2 K (fun x y H Q => rIx K x y H Q ∨ rIxN x y H Q) aIx .fz := fun H G x y dx dy d Q gh rx ry e q => by
  unfold aIx at e
  split at e
  · cases ry.int
    obtain ⟨a, vs, rfl, h1, r1⟩ := rx.lst gh
    obtain ⟨v, h2, r2⟩ := atI_rel r1 e
    exact .inl (.inl ⟨a, vs, _, v, rfl, rfl, .inl h1, h2, q _ _ _ (Step.refl gh) r2⟩)
  · cases ry.int
    obtain ⟨a, vs, rfl, h1, r1⟩ := rx.tup
    obtain ⟨v, h2, r2⟩ := atI_rel r1 e
    exact .inl (.inr (.inl ⟨a, vs, _, v, rfl, rfl, .inl (rdM gh h1.rd), h2, q _ _ _ (Step.refl gh) r2⟩))
  · split at e
    · rename_i z i hz
      cases ry.int
      cases rx.str
      cases e1 : atI z.cps.toList i with
      | none => rw [e1] at e; cases e
      | some c =>
        rw [e1] at e
        cases e
        exact .inl (.inr (.inr ⟨z, i, c, rfl, rfl, hz, e1, q _ _ _ (Step.refl gh) (Rp.str _)⟩))
    · cases e
  · cases ry.int
    obtain ⟨a, ns, rfl, er, h⟩ := rx.scr
    subst er
    have er : (ns.map fun n => (PyData.int n, PyData.none)).map (·.1) = ns.map PyData.int := by rw [List.map_map]; rfl
    rw [er] at e
    obtain ⟨v, h2, r2⟩ := atI_rel (rpAll_ints (K := K) (G := G) ns) e
    exact .inl (.inl ⟨a, _, _, v, rfl, rfl, gh.seq h, h2, q _ _ _ (Step.refl gh) r2⟩)
  · obtain ⟨k, hk, e⟩ := Option.bind_eq_some_iff.mp e
    refine .inr (atD_of gh (rx.noL fun _ z => nomatch z) (ry.noL fun _ z => by obtain ⟨⟨ds, e⟩, _⟩ := keyT_tup hk; rw [e] at z; cases z) hk fun a ep xs b r => ?_)
    rcases kv_at (k := k) r with ⟨_, h2⟩ | ⟨c, v, d', h1, h2, rv⟩
    · rw [h2] at e; cases e
    · rw [h2] at e
      cases e
      exact ⟨v, by rw [h1]; rfl, q _ _ _ (Step.refl gh) rv⟩
  · cases e
def isSlice : Expr → Bool
  | .Slice _ _ _ _ => true
  | _ => false
theorem plain_ix (h : isSlice b = false) : PlainIx b := fun o i => by
  cases b <;> first | rfl | (exact absurd h (by simp [isSlice]))
theorem e_ix (hu : X.A.units + 65 < cLine) (hs : isSlice b = false) (ha : PE X a (tE X.K .bw fa)) (hb : PE X b (tE X.K .bw fb)) : PE X (.Subscript a b pos) (tE X.K .fz (d2 aIx fa fb)) :=
  peW (pe_ix (ix_seq.or (ix_n hu)) ha hb (plain_ix hs)) fun σ H Q h => two (a := a) (b := b) op2_ix h
def cutD (xs : List D) (lo hi : Option Int) : List D := (xs.drop (HT.sIx xs.length 0 lo)).take (HT.sIx xs.length xs.length hi - HT.sIx xs.length 0 lo)
theorem cut_rel {K : PySem.W.Frag} {G : Hp} {vs : List V} {ds : List D} (r : RpAll K G vs ds) (lo hi : Option Int) : RpAll K G (cutV vs lo hi) (cutD ds lo hi) := by
  unfold cutV cutD
  rw [r.length]
  exact (r.drop _).take _
def aCut : D → Option Int → Option Int → Option D
  | .list ds, lo, hi => some (.list (cutD ds lo hi))
  | .tuple ds, lo, hi => some (.tuple (cutD ds lo hi))
  | .str z, lo, hi => if z.length ≤ sizeLine then some (.str (L2.cutS z lo hi)) else none
  | _, _, _ => none
theorem cut_whole (ds : List D) (lo hi : Option Int) (h1 : HT.sIx ds.length 0 lo = 0) (h2 : HT.sIx ds.length ds.length hi = ds.length) : cutD ds lo hi = ds := by
  unfold cutD
  rw [h1, h2]
  simp
def dOpt : Option Den → Env → Option (Option Int)
  | none, _ => some none
  | some f, ρ => match f ρ with | some (.int i) => some (some i) | _ => none
def tO (K : PySem.W.Frag) (o : Option Den) : TO := fun σ H Q => ∃ H0 G0 G ρ i, EnvOk K H0 G0 H G σ ρ ∧ dOpt o ρ = some i ∧ ∀ H' G', Step K H G H' G' → Q i H'
theorem poW {o : Option Expr} {t t' : TO} (h : PO X o t) (w : ∀ σ H Q, t' σ H Q → t σ H Q) : PO X o t' := ⟨fun pins s σ H Q I q => h.run pins s σ H Q I (w σ H Q q)⟩
theorem o_none : PO X none (tO X.K none) := poW po_none fun σ H Q ⟨H0, G0, G, ρ, i, ok, hf, q⟩ => by
  cases hf
  exact q H G (Step.refl ok.gh)
theorem o_some (h : PE X e (tE X.K .bw f)) : PO X (some e) (tO X.K (some f)) := poW (po_some h) fun σ H Q ⟨H0, G0, G, ρ, i, ok, hf, q⟩ => by
  have hf' : (match f ρ with | some (.int i) => some (some i) | _ => none) = some i := hf
  split at hf'
  · rename_i j e1
    cases hf'
    exact ⟨H0, G0, G, ρ, _, ok, e1, fun v H' G' s r => ⟨j, Rb.int r, q _ _ s⟩⟩
  · cases hf'
def dCut (f : Den) (lo hi : Option Den) : Den := fun ρ => (f ρ).bind fun x => (dOpt lo ρ).bind fun l => (dOpt hi ρ).bind fun h => aCut x l h
theorem e_cut {lo hi : Option Expr} {fl fh : Option Den} (he : PE X e (tE X.K .bw f)) (hl : PO X lo (tO X.K fl)) (hh : PO X hi (tO X.K fh)) : PE X (.Subscript e (.Slice lo hi none p) pos) (tE X.K .ow (dCut f fl fh)) :=
  peW (pe_slice ((sl_list.or TN.sl_tupN).or sl_str) he hl hh) fun σ H Q ⟨H0, G0, G, ρ, d, ok, hf, q⟩ => by
    unfold dCut at hf
    cases e1 : f ρ with
    | none => rw [e1] at hf; cases hf
    | some x =>
      cases e2 : dOpt fl ρ with
      | none => rw [e1, e2] at hf; cases hf
      | some l =>
        cases e3 : dOpt fh ρ with
        | none => rw [e1, e2, e3] at hf; cases hf
        | some h =>
          rw [e1, e2, e3] at hf
          simp only [Option.bind_some] at hf
          refine ⟨H0, G0, G, ρ, x, ok, e1, fun v H1 G1 s1 r1 => ⟨H0, G0, G1, ρ, l, ok.step s1, e2, fun H2 G2 s2 => ⟨H0, G0, G2, ρ, h, (ok.step s1).step s2, e3, fun H3 G3 s3 => ?_⟩⟩⟩
          have r3 := Rb.step r1 (s2.trans s3)
          have st := s1.trans (s2.trans s3)
          unfold aCut at hf
          split at hf
          · cases hf
            obtain ⟨a, vs, rfl, h1, rr⟩ := r3.lst s3.gh
            refine .inl (.inl ⟨a, vs, rfl, .inl h1, fun p hp => ?_⟩)
            obtain ⟨s4, r4⟩ := ow_new s3.gh hp (cut_rel rr l h)
            exact q _ _ _ (st.trans s4) (Res.back st r4)
          · cases hf
            obtain ⟨a, vs, rfl, h1, rr⟩ := r3.tup
            refine .inl (.inr ⟨a, vs, rfl, .inl (rdM s3.gh h1.rd), fun ⟨w1, w2⟩ => ?_, fun p o hp ho => ?_⟩)
            · rw [rr.length] at w1 w2
              refine q _ _ _ st ?_
              rw [cut_whole _ _ _ w1 w2]
              exact Rp.tup h1 rr
            · obtain ⟨s4, r4⟩ := tup_new s3.gh hp ho (cut_rel rr l h)
              exact q _ _ _ (st.trans s4) (Res.back st r4)
          · split at hf
            · rename_i hz
              cases hf
              cases r3.str
              exact .inr ⟨_, rfl, hz, q _ _ _ st (Res.back st (ow_str _))⟩
            · cases hf
          · cases hf
def Cal (K : PySem.W.Frag) (r : List V → Hp → VK → Prop) (g : List D → Option D) (m : Md) : Prop := ∀ (H G : Hp) (vs : List V) (ds : List D) (d : D) (Q : VK), Same G H → Paired (Rb K H G) vs ds → g ds = some d → (∀ v H' G', Step K H G H' G' → Res K H H' G' v d m → Q v H') → r vs H Q
def dCall (g : List D → Option D) (fs : List Den) : Den := fun ρ => (dArgs fs ρ).bind g
theorem dCall_eq {g : List D → Option D} {ρ : Env} {d : D} (h : dCall g fs ρ = some d) : ∃ ds, dArgs fs ρ = some ds ∧ g ds = some d := by
  unfold dCall at h
  cases e : dArgs fs ρ with
  | none => rw [e] at h; cases h
  | some ds => rw [e] at h; exact ⟨ds, rfl, h⟩
theorem cal_read {r : List V → Hp → VK → Prop} {g : List D → Option D} {m : Md} (hg : Cal X.K r g m) {σ : St} {H : Hp} {Q : VK} (h : tE X.K m (dCall g fs) σ H Q) : tCB r (tAb X.K (dArgs fs)) σ H Q := by
  obtain ⟨H0, G0, G, ρ, d, ok, hf, q⟩ := h
  obtain ⟨ds, h1, h2⟩ := dCall_eq hf
  exact ⟨H0, G0, G, ρ, ds, ok, h1, fun vs H1 G1 s r1 => hg H1 G1 vs ds d Q s.gh r1 h2 fun v H' G' s' r' => q v H' G' (s.trans s') (Res.back s r')⟩
theorem back_ok (pos : Pos) (env : PySem.Env) : ∀ (es : List Expr), es.all (fun e => !isStar e) = true → (backTo pos (starEach es env)).any (·.1) = false
  | [], _ => rfl
  | e :: r, h => by
    simp only [List.all_cons, Bool.and_eq_true] at h
    rw [star_ok (by simpa using h.1)]
    show (false || (backTo pos (starEach r env)).any (·.1)) = false
    rw [back_ok pos env r h.2]
    rfl
theorem e_callB {x : Str} {id : String} {r : List V → Hp → VK → Prop} {g : List D → Option D} {m : Md} (hc : CallR X (.builtin id) r) (hg : Cal X.K r g m) (gl : Gl X x) (hm : X.mg x = none) (hv : bootBuiltins x = some (.builtin id)) (hn : x ≠ "__name__") (hdb : (x == ("__debug__" : Str)) = false)
    (hs : (e :: es).all (fun e => !isStar e) = true) (ha : PA X (e :: es) (tAb X.K (dArgs fs))) : PE X (.Call (.Name x p) (e :: es) [] pos) (tE X.K m (dCall g fs)) := by
  simp only [List.all_cons, Bool.and_eq_true] at hs
  exact peW (pe_callB hc gl hm hv ha hn hdb (star_ok (by simpa using hs.1) _) (back_ok _ _ _ hs.2)) fun σ H Q h => cal_read hg h
theorem e_callTy {x : Str} {T : String} {r : List V → Hp → VK → Prop} {g : List D → Option D} {m : Md} (hc : CallR X (.type T) r) (hg : Cal X.K r g m) (gl : Gl X x) (hm : X.mg x = none) (hv : bootBuiltins x = some (.type T)) (hn : x ≠ "__name__") (hdb : (x == ("__debug__" : Str)) = false)
    (hs : (e :: es).all (fun e => !isStar e) = true) (ha : PA X (e :: es) (tAb X.K (dArgs fs))) : PE X (.Call (.Name x p) (e :: es) [] pos) (tE X.K m (dCall g fs)) := by
  simp only [List.all_cons, Bool.and_eq_true] at hs
  exact peW (pe_callTy hc gl hm hv ha hn hdb (star_ok (by simpa using hs.1) _) (back_ok _ _ _ hs.2)) fun σ H Q h => cal_read hg h
theorem paired1 {K : PySem.W.Frag} {H G : Hp} {vs : List V} {d : D} (h : Paired (Rb K H G) vs [d]) : ∃ v, vs = [v] ∧ Rb K H G v d := by
  cases h with
  | cons a t => cases t; exact ⟨_, rfl, a⟩
theorem paired2 {K : PySem.W.Frag} {H G : Hp} {vs : List V} {d d' : D} (h : Paired (Rb K H G) vs [d, d']) : ∃ v v', vs = [v, v'] ∧ Rb K H G v d ∧ Rb K H G v' d' := by
  cases h with
  | cons a t =>
    obtain ⟨v', rfl, b⟩ := paired1 t
    exact ⟨_, v', rfl, a, b⟩
def bLen : List D → Option D
  | [.list ds] => some (.int ds.length)
  | [.tuple ds] => some (.int ds.length)
  | [.str z] => if z.length ≤ sizeLine then some (.int z.length) else none
  | [.dict ((.list [], .none) :: r)] => some (.int r.length)
  | _ => none
theorem cal_len {K : PySem.W.Frag} : Cal K (fun xs H Q => (∃ p ys, xs = [.ref p] ∧ (SqL K H p ys ∨ SqT K H p ys) ∧ Q (.int ys.length) H) ∨ ∃ z, xs = [.str z] ∧ z.length ≤ sizeLine ∧ Q (.int z.length) H) bLen .ow := fun H G vs ds d Q gh r e q => by
  unfold bLen at e
  split at e
  · cases e
    obtain ⟨v, rfl, rv⟩ := paired1 r
    obtain ⟨a, us, rfl, h1, r1⟩ := rv.lst gh
    refine .inl ⟨a, us, rfl, .inl (.inl h1), ?_⟩
    rw [r1.length]
    exact q _ _ _ (Step.refl gh) (ow_int _)
  · cases e
    obtain ⟨v, rfl, rv⟩ := paired1 r
    obtain ⟨a, us, rfl, h1, r1⟩ := rv.tup
    refine .inl ⟨a, us, rfl, .inr (.inl (rdM gh h1.rd)), ?_⟩
    rw [r1.length]
    exact q _ _ _ (Step.refl gh) (ow_int _)
  · split at e
    · cases e
      obtain ⟨v, rfl, rv⟩ := paired1 r
      cases rv.str
      exact .inr ⟨_, rfl, by assumption, q _ _ _ (Step.refl gh) (ow_int _)⟩
    · cases e
  · cases e
    obtain ⟨v, rfl, rv⟩ := paired1 r
    obtain ⟨a, ns, rfl, er, h⟩ := rv.scr
    subst er
    refine .inl ⟨a, _, rfl, .inl (gh.seq h), ?_⟩
    have := q (.int ((ns.map fun n => (PyData.int n, PyData.none)).length : Nat)) _ _ (Step.refl gh) (ow_int _)
    rw [List.length_map] at this ⊢
    exact this
  · cases e
def intsOf : List D → Option (List Int)
  | [] => some []
  | .int i :: r => (intsOf r).map (i :: ·)
  | _ :: _ => none
theorem intsOf_eq : ∀ {ds : List D} {ns : List Int}, intsOf ds = some ns → ds = ns.map PyData.int
  | [], _, h => by cases h; rfl
  | .int i :: r, _, h => by
    unfold intsOf at h
    cases e : intsOf r with
    | none => rw [e] at h; cases h
    | some ms =>
      rw [e] at h
      cases h
      rw [intsOf_eq e]
      rfl
  | .none :: _, _, h => by cases h
  | .bool _ :: _, _, h => by cases h
  | .str _ :: _, _, h => by cases h
  | .list _ :: _, _, h => by cases h
  | .tuple _ :: _, _, h => by cases h
  | .dict _ :: _, _, h => by cases h
def boolsOf : List D → Option (List Bool)
  | [] => some []
  | .bool i :: r => (boolsOf r).map (i :: ·)
  | _ :: _ => none
theorem boolsOf_eq : ∀ {ds : List D} {ns : List Bool}, boolsOf ds = some ns → ds = ns.map PyData.bool
  | [], _, h => by cases h; rfl
  | .bool i :: r, _, h => by
    unfold boolsOf at h
    cases e : boolsOf r with
    | none => rw [e] at h; cases h
    | some ms =>
      rw [e] at h
      cases h
      rw [boolsOf_eq e]
      rfl
  | .none :: _, _, h => by cases h
  | .int _ :: _, _, h => by cases h
  | .str _ :: _, _, h => by cases h
  | .list _ :: _, _, h => by cases h
  | .tuple _ :: _, _, h => by cases h
  | .dict _ :: _, _, h => by cases h
theorem Rb.intsL {K : PySem.W.Frag} {H G : Hp} {v : V} {ds : List D} {ns : List Int} (gh : Same G H) (r : Rb K H G v (.list ds)) (h : intsOf ds = some ns) : ∃ a, v = .ref a ∧ Rd H a (.lst (ns.map V.int)) := by
  obtain ⟨a, us, rfl, h1, r1⟩ := r.lst gh
  rw [intsOf_eq h] at r1
  rw [r1.ints] at h1
  exact ⟨a, rfl, h1⟩
theorem Rb.boolsL {K : PySem.W.Frag} {H G : Hp} {v : V} {ds : List D} {ns : List Bool} (gh : Same G H) (r : Rb K H G v (.list ds)) (h : boolsOf ds = some ns) : ∃ a, v = .ref a ∧ Rd H a (.lst (ns.map V.bl)) := by
  obtain ⟨a, us, rfl, h1, r1⟩ := r.lst gh
  rw [boolsOf_eq h] at r1
  rw [r1.bools] at h1
  exact ⟨a, rfl, h1⟩
def bSum : List D → Option D
  | [.list ds] => (intsOf ds).map fun ns => .int ns.sum
  | _ => none
theorem cal_sum {K : PySem.W.Frag} : Cal K (rSum K) bSum .ow := fun H G vs ds d Q gh r e q => by
  unfold bSum at e
  split at e
  · rename_i xs
    cases e1 : intsOf xs with
    | none => rw [e1] at e; cases e
    | some ns =>
      rw [e1] at e
      cases e
      obtain ⟨v, rfl, rv⟩ := paired1 r
      obtain ⟨a, rfl, h⟩ := rv.intsL gh e1
      exact ⟨a, ns, rfl, .inl h, q _ _ _ (Step.refl gh) (ow_int _)⟩
  · cases e
def bAll : List D → Option D
  | [.list ds] => (boolsOf ds).map fun ns => .bool (ns.all id)
  | _ => none
def bAny : List D → Option D
  | [.list ds] => (boolsOf ds).map fun ns => .bool (ns.any id)
  | _ => none
theorem cal_all {K : PySem.W.Frag} : Cal K (rAll K) bAll .ow := fun H G vs ds d Q gh r e q => by
  unfold bAll at e
  split at e
  · rename_i xs
    cases e1 : boolsOf xs with
    | none => rw [e1] at e; cases e
    | some ns =>
      rw [e1] at e
      cases e
      obtain ⟨v, rfl, rv⟩ := paired1 r
      obtain ⟨a, rfl, h⟩ := rv.boolsL gh e1
      exact ⟨a, ns, rfl, .inl h, q _ _ _ (Step.refl gh) (ow_bool _)⟩
  · cases e
theorem cal_any {K : PySem.W.Frag} : Cal K (rAny K) bAny .ow := fun H G vs ds d Q gh r e q => by
  unfold bAny at e
  split at e
  · rename_i xs
    cases e1 : boolsOf xs with
    | none => rw [e1] at e; cases e
    | some ns =>
      rw [e1] at e
      cases e
      obtain ⟨v, rfl, rv⟩ := paired1 r
      obtain ⟨a, rfl, h⟩ := rv.boolsL gh e1
      exact ⟨a, ns, rfl, .inl h, q _ _ _ (Step.refl gh) (ow_bool _)⟩
  · cases e
end
end PF
namespace PF
open PySem PySem.Spec PyProof.Rows L2
section
variable {X : Cx} {a b c e : Expr} {es : List Expr} {fa fb fc f : Den} {fs : List Den} {pos p : Pos}
def bTuple : List D → Option D
  | [.list ds] => some (.tuple ds)
  | [.tuple ds] => some (.tuple ds)
  | _ => none
theorem cal_tuple {K : PySem.W.Frag} : Cal K (fun xs H Q => ∃ p ys, xs = [.ref p] ∧ ((SqL K H p ys ∧ TN.NewT Q H ys) ∨ (SqT K H p ys ∧ Q (.ref p) H))) bTuple .ow := fun H G vs ds d Q gh r e q => by
  unfold bTuple at e
  split at e
  · cases e
    obtain ⟨v, rfl, rv⟩ := paired1 r
    obtain ⟨a, us, rfl, h1, r1⟩ := rv.lst gh
    refine ⟨a, us, rfl, .inl ⟨.inl h1, fun l o hl ho => ?_⟩⟩
    obtain ⟨s, r⟩ := tup_new gh hl ho r1
    exact q _ _ _ s r
  · cases e
    obtain ⟨v, rfl, rv⟩ := paired1 r
    obtain ⟨a, us, rfl, h1, r1⟩ := rv.tup
    exact ⟨a, us, rfl, .inr ⟨.inl (rdM gh h1.rd), q _ _ _ (Step.refl gh) (Rp.tup h1 r1)⟩⟩
  · cases e
theorem Rb.dic {K : PySem.W.Frag} {H G : Hp} {v : V} {kvs : List (D × D)} (r : Rb K H G v (.dict ((.bool true, .none) :: kvs))) : ∃ a ep xs, v = .ref a ∧ G a = some (DN.DK a ep xs) ∧ RpKV K G xs kvs := by
  have r' := r.noL fun _ z => nomatch z
  generalize hd : PyData.dict ((.bool true, .none) :: kvs) = d at r'
  cases r' with
  | dic e r =>
    injection hd with hd
    injection hd with _ hd
    subst hd
    exact ⟨_, _, _, rfl, e, r⟩
  | _ => cases hd
theorem kv_refs {K : PySem.W.Frag} {G : Hp} : ∀ {xs : List DN.Ent} {kvs : List (D × D)}, RpKV K G xs kvs → RpAll K G (xs.map fun x => V.ref x.2.1) (kvs.map (·.1))
  | _, _, .nil => .nil
  | _, _, .cons _ r _ t => .cons r (kv_refs t)
def bList : List D → Option D
  | [.list ds] => some (.list ds)
  | [.tuple ds] => some (.list ds)
  | [.dict ((.bool true, .none) :: kvs)] => some (.list (kvs.map (·.1)))
  | _ => none
theorem cal_list {K : PySem.W.Frag} : Cal K (fun xs H Q => (∃ p ys, xs = [.ref p] ∧ (SqL K H p ys ∨ SqT K H p ys) ∧ ∀ l, H l = none → Q (.ref l) (upd H l (.lst ys))) ∨ DN.rListN xs H Q) bList .ow := fun H G vs ds d Q gh r e q => by
  unfold bList at e
  split at e
  · cases e
    obtain ⟨v, rfl, rv⟩ := paired1 r
    obtain ⟨a, us, rfl, h1, r1⟩ := rv.lst gh
    refine .inl ⟨a, us, rfl, .inl (.inl h1), fun l hl => ?_⟩
    obtain ⟨s, r⟩ := ow_new gh hl r1
    exact q _ _ _ s r
  · cases e
    obtain ⟨v, rfl, rv⟩ := paired1 r
    obtain ⟨a, us, rfl, h1, r1⟩ := rv.tup
    refine .inl ⟨a, us, rfl, .inr (.inl (rdM gh h1.rd)), fun l hl => ?_⟩
    obtain ⟨s, r⟩ := ow_new gh hl r1
    exact q _ _ _ s r
  · cases e
    obtain ⟨v, rfl, rv⟩ := paired1 r
    obtain ⟨a, ep, xs, rfl, h1, r1⟩ := rv.dic
    refine .inr ⟨a, ep, xs, rfl, gh _ _ h1, fun l hl => ?_⟩
    obtain ⟨s, r⟩ := ow_new gh hl (kv_refs r1)
    exact q _ _ _ s r
  · cases e
def rgI (a b : Int) : List Int := (List.range (b - a).toNat).map fun i => a + (i : Nat)
def rgD (a b : Int) : List D := (rgI a b).map PyData.int
theorem rg_rel {K : PySem.W.Frag} {G : Hp} (a b : Int) : RpAll K G (rgV a b) (rgD a b) := by
  have e : rgV a b = (rgI a b).map V.int := by unfold rgV rgI; rw [List.map_map]; rfl
  rw [e]
  exact rpAll_ints _
def rgOk (a b : Int) : Bool := decide (-(2 ^ 62) ≤ a) && decide (a < 2 ^ 62) && decide (-(2 ^ 62) ≤ b) && decide (b < 2 ^ 62) && decide ((b - a).toNat ≤ 2 ^ 24)
theorem rgOk_eq {a b : Int} (h : rgOk a b = true) : RgOk a b := by
  unfold rgOk at h
  simp only [Bool.and_eq_true, decide_eq_true_eq] at h
  exact ⟨h.1.1.1.1, h.1.1.1.2, h.1.1.2, h.1.2, h.2⟩
def aRg : D → D → Option (List D)
  | .int a, .int b => if rgOk a b = true then some (rgD a b) else none
  | _, _ => none
theorem aRg_eq {x y : D} {ds : List D} (h : aRg x y = some ds) : ∃ a b, x = .int a ∧ y = .int b ∧ rgOk a b = true ∧ ds = rgD a b := by
  unfold aRg at h
  split at h
  · split at h
    · cases h; exact ⟨_, _, rfl, rfl, by assumption, rfl⟩
    · cases h
  · cases h
def dRg (f1 f2 : Den) : Env → Option (List D) := fun ρ => (f1 ρ).bind fun x => (f2 ρ).bind fun y => aRg x y
theorem dRg_eq {f1 f2 : Den} {ρ : Env} {ds : List D} (h : dRg f1 f2 ρ = some ds) : ∃ a b, f1 ρ = some (.int a) ∧ f2 ρ = some (.int b) ∧ rgOk a b = true ∧ ds = rgD a b := by
  unfold dRg at h
  cases e : f1 ρ with
  | none => rw [e] at h; cases h
  | some x =>
    cases e2 : f2 ρ with
    | none => rw [e, e2] at h; cases h
    | some y =>
      rw [e, e2] at h
      obtain ⟨a, b, rfl, rfl, h1, h2⟩ := aRg_eq h
      exact ⟨a, b, rfl, rfl, h1, h2⟩
theorem rg1_read {σ : St} {H : Hp} {Q : Int → Int → Hp → Prop} {H0 G0 G : Hp} {ρ : Env} {n : Int} (ok : EnvOk X.K H0 G0 H G σ ρ) (hf : fa ρ = some (.int n)) (q : ∀ H' G', Step X.K H G H' G' → Q 0 n H') : tRg1 (tE X.K .bw fa) σ H Q :=
  ⟨H0, G0, G, ρ, _, ok, hf, fun v H' G' s r => ⟨n, Rb.int r, q H' G' s⟩⟩
theorem rg2_read {σ : St} {H : Hp} {Q : Int → Int → Hp → Prop} {H0 G0 G : Hp} {ρ : Env} {m n : Int} (ok : EnvOk X.K H0 G0 H G σ ρ) (h1 : fa ρ = some (.int m)) (h2 : fb ρ = some (.int n)) (q : ∀ H' G', Step X.K H G H' G' → Q m n H') : tRg2 (tE X.K .bw fa) (tE X.K .bw fb) σ H Q :=
  ⟨H0, G0, G, ρ, _, ok, h1, fun v H1 G1 s r => ⟨H0, G0, G1, ρ, _, ok.step s, h2, fun u H2 G2 s2 r2 => ⟨m, n, Rb.int r, Rb.int r2, q H2 G2 (s.trans s2)⟩⟩⟩
def dLstOf (g : Env → Option (List D)) : Den := fun ρ => (g ρ).map .list
def dTupOf (g : Env → Option (List D)) : Den := fun ρ => (g ρ).map .tuple
theorem lstOf_eq {g : Env → Option (List D)} {ρ : Env} {d : D} (h : dLstOf g ρ = some d) : ∃ ds, g ρ = some ds ∧ d = .list ds := by
  unfold dLstOf at h
  cases e : g ρ with
  | none => rw [e] at h; cases h
  | some ds => rw [e] at h; cases h; exact ⟨ds, rfl, rfl⟩
theorem tupOf_eq {g : Env → Option (List D)} {ρ : Env} {d : D} (h : dTupOf g ρ = some d) : ∃ ds, g ρ = some ds ∧ d = .tuple ds := by
  unfold dTupOf at h
  cases e : g ρ with
  | none => rw [e] at h; cases h
  | some ds => rw [e] at h; cases h; exact ⟨ds, rfl, rfl⟩
theorem lstRg_fin {σ : St} {H : Hp} {Q : VK} {te : St → Hp → (Int → Int → Hp → Prop) → Prop} {H0 G0 G : Hp} {ρ : Env} {m n : Int} (ok : EnvOk X.K H0 G0 H G σ ρ) (hk : rgOk m n = true) (q : ∀ v H' G', Step X.K H G H' G' → Res X.K H H' G' v (.list (rgD m n)) .ow → Q v H')
    (h : ∀ R : Int → Int → Hp → Prop, (∀ H' G', Step X.K H G H' G' → R m n H') → te σ H R) : tLstRg te σ H Q :=
  h _ fun H' G' s => ⟨rgOk_eq hk, fun p hp => by
    obtain ⟨s2, r2⟩ := ow_new (K := X.K) s.gh hp (rg_rel m n)
    exact q _ _ _ (s.trans s2) (Res.back s r2)⟩
theorem tupRg_fin {σ : St} {H : Hp} {Q : VK} {te : St → Hp → (Int → Int → Hp → Prop) → Prop} {H0 G0 G : Hp} {ρ : Env} {m n : Int} (ok : EnvOk X.K H0 G0 H G σ ρ) (hk : rgOk m n = true) (q : ∀ v H' G', Step X.K H G H' G' → Res X.K H H' G' v (.tuple (rgD m n)) .ow → Q v H')
    (h : ∀ R : Int → Int → Hp → Prop, (∀ H' G', Step X.K H G H' G' → R m n H') → te σ H R) : TN.tTupRgN te σ H Q :=
  h _ fun H' G' s => ⟨rgOk_eq hk, fun p o hp ho => by
    obtain ⟨s2, r2⟩ := tup_new (K := X.K) s.gh hp ho (rg_rel m n)
    exact q _ _ _ (s.trans s2) (Res.back s r2)⟩
theorem st1 {es : List Expr} (h : isStar e = false) : starEach (e :: es) X.env = (false, eval e X.env) :: starEach es X.env := star_ok h _
theorem notStarCall {g : Expr} {l : List Expr} {k : List Keyword} {p : Pos} : isStar (.Call g l k p) = false := rfl
theorem e_listRg1 (hc : X.calm = true) (gl : Gl X "list") (hm : X.mg "list" = none) (gr : Gl X "range") (hr : X.mg "range" = none) (na : isStar a = false) (ha : PE X a (tE X.K .bw fa)) {p2 pos2 : Pos} :
    PE X (.Call (.Name "list" p) [.Call (.Name "range" p2) [a] [] pos2] [] pos) (tE X.K .ow (dLstOf (dRg (dC (.int 0)) fa))) :=
  peW (pe_listRg hc gl hm (prg_1 gr hr ha (st1 na)) (st1 notStarCall)) fun σ H Q ⟨H0, G0, G, ρ, d, ok, hf, q⟩ => by
    obtain ⟨ds, h1, rfl⟩ := lstOf_eq hf
    obtain ⟨m, n, h2, h3, h4, rfl⟩ := dRg_eq h1
    cases h2
    exact lstRg_fin ok h4 q fun R hR => rg1_read ok h3 hR
theorem e_listRg2 (hc : X.calm = true) (gl : Gl X "list") (hm : X.mg "list" = none) (gr : Gl X "range") (hr : X.mg "range" = none) (na : isStar a = false) (nb : isStar b = false) (ha : PE X a (tE X.K .bw fa)) (hb : PE X b (tE X.K .bw fb)) {p2 pos2 : Pos} :
    PE X (.Call (.Name "list" p) [.Call (.Name "range" p2) [a, b] [] pos2] [] pos) (tE X.K .ow (dLstOf (dRg fa fb))) :=
  peW (pe_listRg hc gl hm (prg_2 gr hr ha hb (st1 na) (st1 nb) (back_ok _ _ _ (by simp [nb]))) (st1 notStarCall)) fun σ H Q ⟨H0, G0, G, ρ, d, ok, hf, q⟩ => by
    obtain ⟨ds, h1, rfl⟩ := lstOf_eq hf
    obtain ⟨m, n, h2, h3, h4, rfl⟩ := dRg_eq h1
    exact lstRg_fin ok h4 q fun R hR => rg2_read ok h2 h3 hR
theorem e_tupRg1 (hc : X.calm = true) (gl : Gl X "tuple") (hm : X.mg "tuple" = none) (gr : Gl X "range") (hr : X.mg "range" = none) (na : isStar a = false) (ha : PE X a (tE X.K .bw fa)) {p2 pos2 : Pos} :
    PE X (.Call (.Name "tuple" p) [.Call (.Name "range" p2) [a] [] pos2] [] pos) (tE X.K .ow (dTupOf (dRg (dC (.int 0)) fa))) :=
  peW (TN.pe_tupRgN hc gl hm (prg_1 gr hr ha (st1 na)) (st1 notStarCall)) fun σ H Q ⟨H0, G0, G, ρ, d, ok, hf, q⟩ => by
    obtain ⟨ds, h1, rfl⟩ := tupOf_eq hf
    obtain ⟨m, n, h2, h3, h4, rfl⟩ := dRg_eq h1
    cases h2
    exact tupRg_fin ok h4 q fun R hR => rg1_read ok h3 hR
theorem e_tupRg2 (hc : X.calm = true) (gl : Gl X "tuple") (hm : X.mg "tuple" = none) (gr : Gl X "range") (hr : X.mg "range" = none) (na : isStar a = false) (nb : isStar b = false) (ha : PE X a (tE X.K .bw fa)) (hb : PE X b (tE X.K .bw fb)) {p2 pos2 : Pos} :
    PE X (.Call (.Name "tuple" p) [.Call (.Name "range" p2) [a, b] [] pos2] [] pos) (tE X.K .ow (dTupOf (dRg fa fb))) :=
  peW (TN.pe_tupRgN hc gl hm (prg_2 gr hr ha hb (st1 na) (st1 nb) (back_ok _ _ _ (by simp [nb]))) (st1 notStarCall)) fun σ H Q ⟨H0, G0, G, ρ, d, ok, hf, q⟩ => by
    obtain ⟨ds, h1, rfl⟩ := tupOf_eq hf
    obtain ⟨m, n, h2, h3, h4, rfl⟩ := dRg_eq h1
    exact tupRg_fin ok h4 q fun R hR => rg2_read ok h2 h3 hR
inductive Kd where
  | int | bool | str | list | tuple
def Kd.nm : Kd → String
  | .int => "int" | .bool => "bool" | .str => "str" | .list => "list" | .tuple => "tuple"
def tyD : D → String
  | .none => "NoneType" | .bool _ => "bool" | .int _ => "int" | .str _ => "str" | .list _ => "list" | .tuple _ => "tuple" | .dict _ => "dict"
def isK : Kd → D → Bool
  | .int, .int _ => true
  | .int, .bool _ => true
  | .bool, .bool _ => true
  | .str, .str _ => true
  | .list, .list _ => true
  | .tuple, .tuple _ => true
  | _, _ => false
theorem kit_all (k : Kd) (d : D) : kitB (tyD d) k.nm = some (isK k d) := by
  cases k <;> cases d <;> (simp only [tyD, Kd.nm, isK]; decide +kernel)
theorem tyX_of {K : PySem.W.Frag} {H G : Hp} {v : V} {d : D} (hd : ∀ r, d ≠ .dict r) (gh : Same G H) (r : Rb K H G v d) : TyX K H v (.type (tyD d)) := by
  rcases r with r | ⟨xs, rfl, a, vs, rfl, h, _⟩
  · cases r with
    | non => exact .base .non
    | bl b => exact .base (.bl b)
    | int i => exact .base (.int i)
    | str x => exact .base (.str x)
    | lst h _ =>
      rcases rdM gh (.inl h) with h | ⟨o, h⟩
      · exact .base (.lst h)
      · exact .base (.frz h)
    | tup h _ =>
      rcases rdM gh h.rd with h | ⟨o, h⟩
      · exact .base (.tup h)
      · exact .fTuple h
    | scr h => exact absurd rfl (hd _)
    | dic h _ => exact absurd rfl (hd _)
    | wtp h => exact absurd rfl (hd _)
    | hol h => exact absurd rfl (hd _)
    | exc h _ => exact absurd rfl (hd _)
  · exact .base (.lst h)
def aIsi (ks : List Kd) : D → Option D
  | .dict _ => none
  | d => some (.bool (ks.any (isK · d)))
def dIsi (ks : List Kd) (f : Den) : Den := fun ρ => (f ρ).bind (aIsi ks)
theorem isi_eq {ks : List Kd} {ρ : Env} {d : D} (h : dIsi ks f ρ = some d) : ∃ x, f ρ = some x ∧ d = .bool (ks.any (isK · x)) ∧ ∀ r, x ≠ .dict r := by
  unfold dIsi at h
  cases e : f ρ with
  | none => rw [e] at h; cases h
  | some x =>
    rw [e] at h
    have h' : aIsi ks x = some d := h
    cases x <;> first | (cases h'; exact ⟨_, rfl, rfl, fun _ z => nomatch z⟩) | cases h'
theorem e_isi {T : Str} {k : Kd} {pT : Pos} (gl : Gl X "isinstance") (hm : X.mg "isinstance" = none) (gT : Gl X T) (hT : X.mg T = none) (hv : bootBuiltins T = some (.type k.nm)) (hn : T ≠ "__name__") (hdb : (T == ("__debug__" : Str)) = false) (hs : isStar a = false) (ha : PE X a (tE X.K .bw fa)) :
    PE X (.Call (.Name "isinstance" p) [a, .Name T pT] [] pos) (tE X.K .ow (dIsi [k] fa)) :=
  peW (pe_callB call_isi gl hm boot_isinstance (pa_cons ha (pa_cons (pe_bltn gT hT hv (show RelV (.ty k.nm) (.type k.nm) from rfl) hn hdb) pa_nil (st1 rfl)) (st1 hs)) (by decide) (by decide) (st1 hs) (back_ok _ _ _ rfl)) fun σ H Q ⟨H0, G0, G, ρ, d, ok, hf, q⟩ => by
    obtain ⟨x, h1, rfl, hnd⟩ := isi_eq hf
    refine ⟨H0, G0, G, ρ, x, ok, h1, fun v H1 G1 s r => ⟨v, .ty k.nm, _, _, _, rfl, .ty _, tyX_of hnd s.gh r, kit_ty (kit_all k x), ?_⟩⟩
    have := q (.bl ([k].any (isK · x))) H1 G1 s (ow_bool _)
    simpa using this
inductive KNames (X : Cx) : List Expr → List Kd → Prop where
  | nil : KNames X [] []
  | cons {T : Str} {k : Kd} {pT : Pos} {r : List Expr} {ks : List Kd} (gT : Gl X T) (hT : X.mg T = none) (hv : bootBuiltins T = some (.type k.nm)) (hn : T ≠ "__name__") (hdb : (T == ("__debug__" : Str)) = false) (t : KNames X r ks) : KNames X (.Name T pT :: r) (k :: ks)
def tKs (ks : List Kd) : TA := fun _ H Q => Q (ks.map fun k => V.ty k.nm) H
theorem pa_ks : ∀ {es : List Expr} {ks : List Kd}, KNames X es ks → PA X es (tKs ks)
  | _, _, .nil => pa_nil
  | _, _, @KNames.cons _ T k pT r ks gT hT hv hn hdb t => paW (pa_cons (pe_bltn gT hT hv (show RelV (.ty k.nm) (.type k.nm) from rfl) hn hdb) (pa_ks t) (st1 rfl)) fun σ H Q h => h
theorem kit_any {K : PySem.W.Frag} (d : D) : ∀ ks : List Kd, PySem.W.kitAny K (.type (tyD d)) (ks.map fun k => Value.type k.nm) = some (ks.any (isK · d))
  | [] => rfl
  | k :: ks => kitAny_cons (b := isK k d) (kit_ty (kit_all k d)) (fun hb => by rw [kit_any d ks, List.any_cons, hb, Bool.false_or]) (fun hb => by rw [List.any_cons, hb, Bool.true_or])
theorem cls_all : ∀ ks : List Kd, Paired ClsV (ks.map fun k => V.ty k.nm) (ks.map fun k => Value.type k.nm)
  | [] => .nil
  | k :: ks => .cons (.ty _) (cls_all ks)
theorem e_isiT {ks : List Kd} {j : Nat} {pT : Pos} (gl : Gl X "isinstance") (hm : X.mg "isinstance" = none) (hk : KNames X es ks) (hl : ks.length ≤ 1000) (hs : isStar a = false) (ha : PE X a (tE X.K .bw fa)) :
    PE X (.Call (.Name "isinstance" p) [a, .Tuple es j pT] [] pos) (tE X.K .ow (dIsi ks fa)) :=
  peW (pe_callB call_isiT gl hm boot_isinstance (pa_cons ha (pa_cons (pe_tup (pa_ks hk)) pa_nil (st1 rfl)) (st1 hs)) (by decide) (by decide) (st1 hs) (back_ok _ _ _ rfl)) fun σ H Q ⟨H0, G0, G, ρ, d, ok, hf, q⟩ => by
    obtain ⟨x, h1, rfl, hnd⟩ := isi_eq hf
    refine ⟨H0, G0, G, ρ, x, ok, h1, fun v H1 G1 s r => ⟨?_, fun p hp => ?_⟩⟩
    · rw [List.length_map]
      exact Nat.le_of_lt (small1000 hl)
    · have s2 : Step X.K H1 G1 (upd H1 p (.tup (ks.map fun k => V.ty k.nm))) G1 := Step.new' s.gh hp
      exact ⟨v, p, _, _, _, _, rfl, upd_same, cls_all ks, tyX_of hnd s2.gh (Rb.step r s2), kit_any x ks, q _ _ _ (s.trans s2) (ow_bool _)⟩
def spF (K : PySem.W.Frag) (n : Nat) (f : List D → Option D) : Sp := fun vs H Q _ => ∃ G ds d, TbOk K G H ∧ Same G H ∧ RpAll K G vs ds ∧ ds.length = n ∧ f ds = some d ∧ ∀ v H' G', Step K H G H' G' → Rp K G' v d → Q v H'
theorem e_call {x : Str} {k n : Nat} {fa' : Addr} {fd : FuncData} {ps : List Str} {g : List D → Option D} (F : FnOk X.prog X.w X.K X.mg X.base CX0 k fa' fd ps (spF X.K n g)) (hr : Room k X.A) (gl : Gl X x) (hm : X.mg x = some (.ref fa')) (hk : PySem.W.keepIn X.K (.ref fa') = true) (hb : Binds X.K fd ps [])
    (hdb : (x == ("__debug__" : Str)) = false) (hl : fs.length = n) (hs : (e :: es).all (fun e => !isStar e) = true) (ha : PA X (e :: es) (tA X.K (dArgs fs))) : PE X (.Call (.Name x p) (e :: es) [] pos) (tE X.K .fz (dCall g fs)) := by
  simp only [List.all_cons, Bool.and_eq_true] at hs
  exact peW (pe_call F hr gl hm hk hb .nil pass0 ha hdb (star_ok (by simpa using hs.1) _) (back_ok _ _ _ hs.2)) fun σ H Q ⟨H0, G0, G, ρ, d, ok, hf, q⟩ => by
    obtain ⟨ds, h1, h2⟩ := dCall_eq hf
    refine ⟨H0, G0, G, ρ, ds, ok, h1, fun vs H1 G1 s r => ?_⟩
    show spF X.K n g (vs ++ []) H1 Q E0
    rw [List.append_nil]
    exact ⟨G1, ds, d, s.tb ok.tb, s.gh, r, by rw [dArgs_len h1, hl], h2, fun v H' G' s' r' => q v H' G' (s.trans s') r'⟩
end
end PF
namespace PF
open PySem PySem.Spec PyProof.Rows L2
set_option maxHeartbeats 1000000 in
theorem meets_enumT (l : Addr) (items : Array Value) :
    Meets (Builtin.«enumerate.__new__» ⟨[.type "enumerate", .ref l], []⟩) (fun _ R s => s.heap.IsTuple l items ∧
      R (.ok (.ret (.ref (s.heap.push { cls := .type "tuple_iterator", data := .fields #[.ref l, .int 0 0] }).objs.size)))
        { s with heap := (s.heap.push { cls := .type "tuple_iterator", data := .fields #[.ref l, .int 0 0] }).push { cls := .type "enumerate", data := .fields #[.none, .bool false, .ref s.heap.objs.size, rawInt 0, .none, .none] } }) :=
  .of_wp fun prog w A R s h => by
    obtain ⟨hp, g, d, tk, os⟩ := s; obtain ⟨h1, h⟩ := h
    have hsub := sub_enumerate
    have q1 : ∀ {A' : Around} {E : Value → Shared → Prop} {Q : Value → Shared → Prop}, Q (.ref hp.objs.size) ⟨hp.push { cls := .type "tuple_iterator", data := .fields #[.ref l, .int 0 0] }, g, d, tk, os⟩ → wpAny (model prog w) A' (pyIter (.ref l)) Q E ⟨hp, g, d, tk, os⟩ :=
      fun q => (begins_tuple l items).iter prog w _ _ ⟨hp, g, d, tk, os⟩ _ h1 q
    wp_walk using q1
    refine wpAny_stack_any fun st => wpAny_pure ?_
    split
    · rename_i c _ _ _ _ _
      cases (c == Value.type "enumerate")
      · wp_walk using q1
        exact ⟨_, rfl, h⟩
      · wp_walk using q1
        exact ⟨_, rfl, h⟩
    · wp_walk using q1
      exact ⟨_, rfl, h⟩
theorem call_enumT {prog : Program} {w : World} {A : Around} {E : Value → Shared → Prop} {s : Shared} {l : Addr} {items : Array Value} {Q : Value → Shared → Prop} (hL : s.heap.IsTuple l items)
    (h : ∀ h', IsEnum h' (s.heap.objs.size + 1) s.heap.objs.size 0 .none → h'.IsTupleIter s.heap.objs.size l 0 → h'.objs.size = s.heap.objs.size + 2 →
      (∀ b o, s.heap.get? b = some o → h'.get? b = some o) → Q (.ref (s.heap.objs.size + 1)) { s with heap := h' }) :
    wpAny (model prog w) A (call (.type "enumerate") [.ref l]) Q E s := by
  refine callType_new F.called_enumerate (by decide) (F.typeCall_enumerate_1 _) (F.newCall_enumerate_1 _) (fun obj => F.args_object_init_2 obj _) F.entry_enumerate_new
    (meets_enumT l items) ⟨hL, ?_⟩
  have hz : (s.heap.push { cls := .type "tuple_iterator", data := .fields #[.ref l, .int 0 0] }).objs.size = s.heap.objs.size + 1 := Heap.size_push ..
  show _ ∧ _
  rw [hz]
  have he : IsEnum ((s.heap.push { cls := .type "tuple_iterator", data := .fields #[.ref l, .int 0 0] }).push
      { cls := .type "enumerate", data := .fields #[.none, .bool false, .ref s.heap.objs.size, rawInt 0, .none, .none] }) (s.heap.objs.size + 1) s.heap.objs.size 0 .none := by
    have := Heap.get?_push_size (s.heap.push { cls := .type "tuple_iterator", data := .fields #[.ref l, .int 0 0] })
      (o := { cls := .type "enumerate", data := .fields #[.none, .bool false, .ref s.heap.objs.size, rawInt 0, .none, .none] }) rfl
    rw [hz] at this; exact this
  refine ⟨⟨_, he, rfl⟩, h _ he ⟨_, Heap.get?_push_of_some _ (Heap.get?_push_size _ rfl), rfl, rfl⟩ (by rw [Heap.size_push, hz]) fun b o x => Heap.get?_push_of_some _ (Heap.get?_push_of_some _ x)⟩
def IteT (K : PySem.W.Frag) (a : Addr) : It :=
  ⟨fun i H => ∃ (xs : List V) (x : V), SqT K H a xs ∧ xs[i]? = some x, fun i H v H' => ∃ T x, v = .ref T ∧ H T = none ∧ H' = upd H T (.tup [.int (i : Nat), x]) ∧ ∀ xs, SqT K H a xs → xs[i]? = some x, fun i H => ∃ xs : List V, SqT K H a xs ∧ xs.length ≤ i⟩
theorem turn_enumT {P : Program} {w : World} {K : PySem.W.Frag} {elts : List Expr} {kk : Nat} {tpos : Pos} (a e it : Addr) :
    Turn P w K (.Tuple elts kk tpos) (IteT K a) [e, it] e (fun i h => (∃ old, IsEnum h e it ((i : Nat) : Int) old) ∧ h.IsTupleIter it a i ∧ e ≠ it ∧ a ≠ it ∧ a ≠ e) where
  mem := by simp
  obj := fun i h st b hb => by
    obtain ⟨⟨old, he⟩, ⟨o, ho, hc, hd⟩, _⟩ := st
    have e' : b = e ∨ b = it := by simpa using hb
    rcases e' with z | z
    · rw [z]; exact ⟨_, he, fun v q => nomatch q⟩
    · rw [z]; exact ⟨o, ho, fun v q => by rw [hd] at q; cases q⟩
  keep := fun i h h' st k => let ⟨⟨old, he⟩, hi, hne⟩ := st; ⟨⟨old, k e (by simp) _ he⟩, hi.at fun o q => k it (by simp) o q, hne⟩
  item := by
    intro X hP hw hK hc i pins s σ H E I hf st hg
    subst hP hw hK
    obtain ⟨⟨old, he⟩, hit, hne, hai, hae⟩ := st
    obtain ⟨xs, x, hq, hx⟩ := hg
    obtain ⟨its, rv, p, hz⟩ := I.tuple hq
    obtain ⟨u, hu, ru⟩ := rv.get hx
    have hel : e < s.heap.objs.size := Heap.lt_size he
    have hil : it < s.heap.objs.size := by obtain ⟨_, q, _⟩ := hit; exact Heap.lt_size q
    have hIT : s.heap.IsTuple a its.toArray := p
    have hlt : i < its.toArray.size := by
      have := (List.getElem?_eq_some_iff.mp hu).1
      simpa using this
    refine wpAny_pyNext_enum_itemD (Draws.tuple (A := X.A.in1) (I.ok.hd hc) it a hai its.toArray) he ⟨hit, hIT⟩ hlt hne (by simp [hne, Ne.symm hae]) fun u' h' tk hu' ho hst hT hsz hk => ?_
    have eu : u' = u := by
      have q1 : its.toArray[i]? = some u := by simpa using hu
      exact Option.some.inj (hu'.symm.trans q1)
    subst eu
    refine ⟨_, rfl, wpAny_letOwnedTupleGo_enum (s := { s with heap := h', toks := tk + 1 }) ho fun h'' he' sb => ?_⟩
    have hT2 : h''.get? s.heap.objs.size = some { cls := .type "tuple", data := .seq #[.int i tk, u'] } := (sb.2 _ (Nat.ne_of_gt hel)).trans hT
    have new : ObjOk X.prog X.w (upd H s.heap.objs.size (.tup [.int (i : Nat), x])) h'' s.heap.objs.size (.tup [.int (i : Nat), x]) :=
      ⟨by show 2 ≤ sizeLine; decide, [.int i tk, u'], .cons ⟨_, rfl⟩ (.cons ru .nil), ⟨_, hT2, rfl, _, rfl⟩⟩
    have I1 : Inv X pins σ (upd H s.heap.objs.size (.tup [.int (i : Nat), x])) { s with heap := h'', toks := tk + 1 } :=
      I.turnedNew (ch := [e, it]) (fun b ob hb q => (sb.2 b (fun z => hb (by simp [z]))).trans (hk b ob (fun z => hb (by simp [z])) (fun z => hb (by simp [z])) q)) hf (Nat.le_refl _) new
    refine ⟨.ref s.heap.objs.size, _, I1, rfl, ⟨_, x, rfl, I.hok.fresh (Nat.le_refl _), rfl, fun ys hy => by rw [I.tuple_inj hy hq]; exact hx⟩, ⟨⟨u', ?_⟩, hst.1.at fun o q => (sb.2 it (Ne.symm hne)).trans q, hne, hai, hae⟩, fun b hb => ?_⟩
    · have e1 : ((i + 1 : Nat) : Int) = (i : Int) + 1 := by omega
      rw [e1]; exact he'
    · have hb' : b < s.heap.objs.size := by
        have e' : b = e ∨ b = it := by simpa using hb
        rcases e' with z | z
        · rw [z]; exact hel
        · rw [z]; exact hil
      rw [upd_ne (Nat.ne_of_lt hb')]
      exact (hf b hb).1
  done := by
    intro X hP hw hK hc i pins s σ H E I hf st hg
    subst hP hw hK
    obtain ⟨⟨old, he⟩, hit, hne, hai, hae⟩ := st
    obtain ⟨xs, hq, hx⟩ := hg
    obtain ⟨its, rv, p, hz⟩ := I.tuple hq
    obtain ⟨f0, f1, f2, f3, f4, f5⟩ := hf it (by simp)
    have hl := rv.length
    have hIT : s.heap.IsTuple a its.toArray := p
    refine wpAny_pyNext_enum_endD (n := i) (fp := [it, a]) (P := fun _ _ => True) (St := fun j h => j = i ∧ h.IsTupleIter it a i ∧ h.IsTuple a its.toArray) ?_ he ⟨rfl, hit, hIT⟩ fun h' eb => ⟨rfl, I.turned (t' := s.toks) (fun b o hb q => eb b o hb q) f0 f1 f3 f4 f5⟩
    exact {
      live := fun _ _ st => let ⟨o, ho, _⟩ := st.2.1; ⟨o, ho⟩
      frame := fun _ _ _ st hk => ⟨st.1, st.2.1.at fun o e => hk it (by simp) o e, st.2.2.at fun o e => hk a (by simp) o e⟩
      item := fun j s Q E hi st hQ => absurd hi (by rw [st.1]; exact Nat.lt_irrefl _)
      done := fun s Q E st hE => wpAny_nextOf_tuple_end (I.ok.hd hc) st.2.1 st.2.2 (by simp; omega) hE }
  self := fun A i s Q E st h => let ⟨⟨_, he⟩, _⟩ := st; wpAny_pyIter_enum he h
def iEnumT (K : PySem.W.Frag) (ta : TA) : TI := fun σ H R => ta σ H fun vs H1 => ∃ a xs, vs = [.ref a] ∧ SqT K H1 a xs ∧ R (IteT K a) H1
theorem pi_enumT {X : Cx} {e : Expr} {ta : TA} {p pos tpos : Pos} {elts : List Expr} {kk : Nat} (hg : Gl X "enumerate") (hm : X.mg "enumerate" = none) (ha : PA X [e] ta) (hs : starEach [e] X.env = [(false, eval e X.env)]) :
    PI X (.Tuple elts kk tpos) (.Call (.Name "enumerate" p) [e] [] pos) (iEnumT X.K ta) := by
  refine ⟨fun pins s σ H R I h => ?_⟩
  refine Call_ (ld_blt I hg hm boot_enumerate (PyProof.Rows.callWith_type1 (thn (ha.run pos pins s σ H _ I h) fun us s1 ⟨vs, H1, I1, r1, q1⟩ => ?_) hs rfl))
  obtain ⟨a, xs, ex, hq, q⟩ := q1
  subst ex
  cases r1 with
  | cons r rr =>
    cases rr
    cases r
    obtain ⟨its, rv, p', hz⟩ := I1.tuple hq
    have hIT : s1.heap.IsTuple a its.toArray := p'
    have hal : a < s1.heap.objs.size := by obtain ⟨_, q, _⟩ := hIT; exact Heap.lt_size q
    refine call_enumT hIT fun h' he hit hsz hk => wpAny_pyIter_enum he ?_
    have I2 : Inv X pins σ H1 { s1 with heap := h' } := I1.kept (t' := s1.toks) hk
    refine ⟨s1.heap.objs.size + 1, [s1.heap.objs.size + 1, s1.heap.objs.size], _, _, H1, rfl, I2, turn_enumT a (s1.heap.objs.size + 1) s1.heap.objs.size, ⟨⟨.none, he⟩, hit, Nat.succ_ne_self _, Nat.ne_of_lt hal, Nat.ne_of_lt (Nat.lt_succ_of_lt hal)⟩, fun b hb => ?_, q⟩
    have e' : b = s1.heap.objs.size + 1 ∨ b = s1.heap.objs.size := by simpa using hb
    have hle : s1.heap.objs.size ≤ b := by
      rcases e' with z | z
      · rw [z]; exact Nat.le_add_right _ _
      · rw [z]; exact Nat.le_refl _
    exact I1.fpOk hle (I1.hok.fresh hle)
end PF
namespace PF
open PySem PySem.Spec PyProof.Rows L2 RZ
def RpW (pr : Bool) (K : PySem.W.Frag) (G : Hp) (v : V) (d : D) : Prop := Rp K G v d ∨ (pr = true ∧ ∃ a vs ds, v = .ref a ∧ d = .tuple ds ∧ Rd G a (.tup vs) ∧ RpAll K G vs ds)
structure ItOk (pr : Bool) (K : PySem.W.Frag) (G1 : Hp) (C : Hp → Prop) (J : It) (items : List D) : Prop where
  len : items.length ≤ sizeLine
  stop : ∀ H G i, C H → Same G1 G → Same G H → items.length = i → J.stop i H
  go : ∀ H G i d, C H → Same G1 G → Same G H → items[i]? = some d → J.go i H ∧ ∀ x H', J.yld i H x H' → ∃ G', Step K H G H' G' ∧ RpW pr K G' x d
def tI (pr : Bool) (K : PySem.W.Frag) (m : Md) (it : Env → Option (List D)) : TI := fun σ H R => ∃ H0 G0 G ρ items, EnvOk K H0 G0 H G σ ρ ∧ it ρ = some items ∧ ∀ J H' G', Step K H G H' G' → ItOk pr K G' (match m with | .bw => SameT K H' | _ => fun _ => True) J items → R J H'
section
variable {X : Cx} {pr : Bool} {tg a b c e : Expr} {es : List Expr} {fa fb fc f : Den} {fs : List Den} {pos p : Pos} {m : Md}
theorem piW {wi wi' : TI} (h : PI X tg e wi) (w : ∀ σ H R, wi' σ H R → wi σ H R) : PI X tg e wi' := ⟨fun pins s σ H R I q => h.run pins s σ H R I (w σ H R q)⟩
theorem PI.or {wi wi' : TI} (h : PI X tg e wi) (h' : PI X tg e wi') : PI X tg e (fun σ H R => wi σ H R ∨ wi' σ H R) := ⟨fun pins s σ H R I q => by
  rcases q with q | q
  · exact h.run pins s σ H R I q
  · exact h'.run pins s σ H R I q⟩
theorem piL {wi : TI} (h : PI X tg e wi) : PI X tg e (fun σ H R => wi σ H fun J H1 => ∃ n, ((∃ a xs, (SqL X.K H1 a xs ∨ SqT X.K H1 a xs) ∧ n ≤ xs.length) ∨ n ≤ sizeLine ∨ ∃ a ep xs, H1 a = some (DN.DK a ep xs) ∧ n ≤ xs.length) ∧ (n ≤ sizeLine → R J H1)) := ⟨fun pins s σ H R I q => by
  refine thn (h.run pins s σ H _ I q) fun v s1 h1 => thn h1 fun itv s2 ⟨it, fp, tn, J, H', e1, I', T, t0, ff, n, hn, r⟩ => ?_
  refine ⟨it, fp, tn, J, H', e1, I', T, t0, ff, r ?_⟩
  rcases hn with ⟨a, xs, hx | hx, hl⟩ | hn | ⟨a, ep, xs, hx, hl⟩
  · obtain ⟨_, _, _, z⟩ := I'.list hx
    exact Nat.le_trans hl z
  · obtain ⟨_, _, _, z⟩ := I'.tuple hx
    exact Nat.le_trans hl z
  · exact hn
  · exact Nat.le_trans hl (DN.DK.at I'.hok hx).2.1⟩
def dItems0 (f : Den) : Env → Option (List D) := fun ρ => match f ρ with | some (.list ds) => some ds | some (.tuple ds) => some ds | _ => none
def sgns (z : Str) : List D := z.cps.toList.map fun c => PyData.str ⟨#[c]⟩
def dItems (f : Den) : Env → Option (List D) := fun ρ => match f ρ with | some (.list ds) => some ds | some (.tuple ds) => some ds | some (.dict ((.bool true, .none) :: kvs)) => some (kvs.map (·.1)) | some (.str z) => if z.length ≤ sizeLine then some (sgns z) else none | _ => none
theorem it_dic {pr : Bool} {K : PySem.W.Frag} {G : Hp} {C : Hp → Prop} {a : Addr} {ep : Nat} {xs : List DN.Ent} {kvs : List (D × D)} (h : ∀ H G', C H → Same G G' → Same G' H → H a = some (DN.DK a ep xs)) (r : RpKV K G xs kvs) (hl : kvs.length ≤ sizeLine) : ItOk pr K G C (DN.Itn a ep xs) (kvs.map (·.1)) where
  len := by rw [List.length_map]; exact hl
  stop := fun H G' i hC g1 gh hi => ⟨h H G' hC g1 gh, by rw [List.length_map] at hi; rw [kv_len r]; exact Nat.le_of_eq hi⟩
  go := fun H G' i d hC g1 gh hi => by
    rw [List.getElem?_map] at hi
    obtain ⟨p, hp, e⟩ := Option.map_eq_some_iff.mp hi
    subst e
    obtain ⟨x, h1, h2, h3, h4⟩ := kv_get r hp
    refine ⟨⟨h H G' hC g1 gh, (List.getElem?_eq_some_iff.mp h1).1⟩, fun y H' ⟨e1, q, e2, e3⟩ => ?_⟩
    subst e1 e3
    rw [h1] at e2
    cases e2
    exact ⟨G', Step.refl gh, .inl (Rp.mono g1 h3)⟩
theorem RpAll.atV {K : PySem.W.Frag} {G : Hp} {vs : List V} {ds : List D} (r : RpAll K G vs ds) {i : Nat} {d : D} {v : V} (h : ds[i]? = some d) (h2 : vs[i]? = some v) : Rp K G v d := by
  obtain ⟨v', h1, h3⟩ := r.get i h
  rw [h1] at h2
  cases h2
  exact h3
theorem it_tup {pr : Bool} {K : PySem.W.Frag} {G : Hp} {C : Hp → Prop} {a : Addr} {vs : List V} {ds : List D} (h : Rd G a (.tup vs)) (r : RpAll K G vs ds) (hl : ds.length ≤ sizeLine) : ItOk pr K G C (Itt K a) ds where
  len := hl
  stop := fun H G' i _ g1 gh hi => ⟨vs, .inl (rdM (g1.trans gh) h), by rw [r.length]; exact Nat.le_of_eq hi⟩
  go := fun H G' i d _ g1 gh hi => by
    obtain ⟨v, h1, h2⟩ := r.get i hi
    refine ⟨⟨vs, v, .inl (rdM (g1.trans gh) h), h1⟩, fun x H' ⟨e1, e2⟩ => ?_⟩
    subst e1
    have e3 := e2 vs (.inl (rdM (g1.trans gh) h))
    exact ⟨G', Step.refl gh, .inl ((r.atV hi e3).mono g1)⟩
theorem it_lst {pr : Bool} {K : PySem.W.Frag} {G : Hp} {C : Hp → Prop} {a : Addr} {vs : List V} {ds : List D} (h : ∀ H G', C H → Same G G' → Same G' H → Rd H a (.lst vs)) (r : RpAll K G vs ds) (hl : ds.length ≤ sizeLine) : ItOk pr K G C (Itl K a) ds where
  len := hl
  stop := fun H G' i hC g1 gh hi => ⟨vs, .inl (h H G' hC g1 gh), by rw [r.length]; exact Nat.le_of_eq hi⟩
  go := fun H G' i d hC g1 gh hi => by
    obtain ⟨v, h1, h2⟩ := r.get i hi
    refine ⟨⟨vs, v, .inl (h H G' hC g1 gh), h1⟩, fun x H' ⟨e1, e2⟩ => ?_⟩
    subst e1
    have e3 := e2 vs (.inl (h _ G' hC g1 gh))
    exact ⟨G', Step.refl gh, .inl ((r.atV hi e3).mono g1)⟩
theorem it_str {pr : Bool} {K : PySem.W.Frag} {G : Hp} {C : Hp → Prop} {z : Str} (hl : z.length ≤ sizeLine) : ItOk pr K G C (Its z) (sgns z) where
  len := by unfold sgns; rw [List.length_map, Array.length_toList]; exact hl
  stop := fun H G' i _ g1 gh hi => by unfold sgns at hi; rw [List.length_map, Array.length_toList] at hi; exact Nat.le_of_eq hi
  go := fun H G' i d _ g1 gh hi => by
    unfold sgns at hi
    rw [List.getElem?_map, Array.getElem?_toList] at hi
    obtain ⟨c, hc, rfl⟩ := Option.map_eq_some_iff.mp hi
    refine ⟨(Array.getElem?_eq_some_iff.mp hc).1, fun x H' ⟨e1, c', e2, e3⟩ => ?_⟩
    subst e1 e3
    rw [hc] at e2
    cases e2
    exact ⟨G', Step.refl gh, .inl (Rp.str _)⟩
theorem i_seq (he : PE X e (tE X.K .fz f)) : PI X tg e (tI pr X.K .fz (dItems f)) :=
  piW (piL (PI.or (pi_list he) (PI.or (pi_tup he) (PI.or (DN.pi_n he) (pi_str he))))) fun σ H R ⟨H0, G0, G, ρ, items, ok, hf, q⟩ => by
    unfold dItems at hf
    split at hf
    · rename_i ds e1
      cases hf
      refine .inl ⟨H0, G0, G, ρ, _, ok, e1, fun v H1 G1 s r => ?_⟩
      cases r with
      | lst h rr => exact ⟨_, rfl, ⟨_, .inl (rdM s.gh (.inl h))⟩, items.length, .inl ⟨_, _, .inl (.inl (rdM s.gh (.inl h))), by rw [rr.length]; exact Nat.le_refl _⟩, fun hl => q _ _ _ s (it_lst (fun H G' _ g1 gh => rdM (g1.trans gh) (.inl h)) rr hl)⟩
    · rename_i ds e1
      cases hf
      refine .inr (.inl ⟨H0, G0, G, ρ, _, ok, e1, fun v H1 G1 s r => ?_⟩)
      cases r with
      | tup h rr => exact ⟨_, rfl, ⟨_, .inl (rdM s.gh h.rd)⟩, items.length, .inl ⟨_, _, .inr (.inl (rdM s.gh h.rd)), by rw [rr.length]; exact Nat.le_refl _⟩, fun hl => q _ _ _ s (it_tup h.rd rr hl)⟩
    · rename_i kvs e1
      cases hf
      refine .inr (.inr (.inl ⟨H0, G0, G, ρ, _, ok, e1, fun v H1 G1 s r => ?_⟩))
      obtain ⟨a, ep, xs, rfl, h, rr⟩ := Rb.dic (.inl r : Rb X.K H1 G1 v _)
      exact ⟨a, ep, xs, rfl, s.gh _ _ h, kvs.length, .inr (.inr ⟨a, ep, xs, s.gh _ _ h, by rw [kv_len rr]; exact Nat.le_refl _⟩), fun hl => q _ _ _ s (it_dic (fun H G' _ g1 gh => (g1.trans gh) _ _ h) rr hl)⟩
    · rename_i z e1
      by_cases hz : z.length ≤ sizeLine
      case neg => rw [if_neg hz] at hf; cases hf
      rw [if_pos hz] at hf
      cases hf
      refine .inr (.inr (.inr ⟨H0, G0, G, ρ, _, ok, e1, fun v H1 G1 s r => ?_⟩))
      cases (Rb.str (.inl r : Rb X.K H1 G1 v _))
      exact ⟨z, rfl, 0, .inr (.inl (Nat.zero_le _)), fun _ => q _ _ _ s (it_str hz)⟩
    · cases hf
theorem i_seqB (he : PE X e (tE X.K .bw f)) : PI X tg e (tI pr X.K .bw (dItems f)) :=
  piW (piL (PI.or (pi_list he) (PI.or (pi_tup he) (PI.or (DN.pi_n he) (pi_str he))))) fun σ H R ⟨H0, G0, G, ρ, items, ok, hf, q⟩ => by
    unfold dItems at hf
    split at hf
    · rename_i ds e1
      cases hf
      refine .inl ⟨H0, G0, G, ρ, _, ok, e1, fun v H1 G1 s r => ?_⟩
      obtain ⟨a, vs, rfl, h, rr⟩ := Rb.lst s.gh r
      exact ⟨_, rfl, ⟨_, .inl h⟩, items.length, .inl ⟨_, _, .inl (.inl h), by rw [rr.length]; exact Nat.le_refl _⟩, fun hl => q _ _ _ s (it_lst (fun H G' hC g1 gh => rdT hC h fun _ z => nomatch z) rr hl)⟩
    · rename_i ds e1
      cases hf
      refine .inr (.inl ⟨H0, G0, G, ρ, _, ok, e1, fun v H1 G1 s r => ?_⟩)
      obtain ⟨a, vs, rfl, h, rr⟩ := Rb.tup r
      exact ⟨_, rfl, ⟨_, .inl (rdM s.gh h.rd)⟩, items.length, .inl ⟨_, _, .inr (.inl (rdM s.gh h.rd)), by rw [rr.length]; exact Nat.le_refl _⟩, fun hl => q _ _ _ s (it_tup h.rd rr hl)⟩
    · rename_i kvs e1
      cases hf
      refine .inr (.inr (.inl ⟨H0, G0, G, ρ, _, ok, e1, fun v H1 G1 s r => ?_⟩))
      obtain ⟨a, ep, xs, rfl, h, rr⟩ := Rb.dic r
      exact ⟨a, ep, xs, rfl, s.gh _ _ h, kvs.length, .inr (.inr ⟨a, ep, xs, s.gh _ _ h, by rw [kv_len rr]; exact Nat.le_refl _⟩), fun hl => q _ _ _ s (it_dic (fun H G' _ g1 gh => (g1.trans gh) _ _ h) rr hl)⟩
    · rename_i z e1
      by_cases hz : z.length ≤ sizeLine
      case neg => rw [if_neg hz] at hf; cases hf
      rw [if_pos hz] at hf
      cases hf
      refine .inr (.inr (.inr ⟨H0, G0, G, ρ, _, ok, e1, fun v H1 G1 s r => ?_⟩))
      cases (Rb.str r)
      exact ⟨z, rfl, 0, .inr (.inl (Nat.zero_le _)), fun _ => q _ _ _ s (it_str hz)⟩
    · cases hf
theorem rgD_length (a b : Int) : (rgD a b).length = (b - a).toNat := by unfold rgD rgI; rw [List.length_map, List.length_map, List.length_range]
theorem rgD_get {a b : Int} {i : Nat} {d : D} (h : (rgD a b)[i]? = some d) : i < (b - a).toNat ∧ d = .int (a + (i : Nat)) := by
  have hi : i < (rgD a b).length := (List.getElem?_eq_some_iff.mp h).1
  rw [rgD_length] at hi
  refine ⟨hi, ?_⟩
  unfold rgD rgI at h
  rw [List.map_map, List.getElem?_map, List.getElem?_range hi] at h
  cases h
  rfl
theorem it_rg {pr : Bool} {K : PySem.W.Frag} {G : Hp} {C : Hp → Prop} {a b : Int} (h : rgOk a b = true) : ItOk pr K G C (Itr a (b - a).toNat) (rgD a b) where
  len := by
    rw [rgD_length, sizeLine_eq]
    have := (rgOk_eq h).2.2.2.2
    omega
  stop := fun H G' i _ _ _ hi => by rw [rgD_length] at hi; exact Nat.le_of_eq hi
  go := fun H G' i d _ g1 gh hi => by
    obtain ⟨h1, rfl⟩ := rgD_get hi
    refine ⟨h1, fun x H' ⟨e1, e2⟩ => ?_⟩
    subst e1 e2
    exact ⟨G', Step.refl gh, .inl (.int _)⟩
theorem i_rg1 (gr : Gl X "range") (hr : X.mg "range" = none) (na : isStar a = false) (ha : PE X a (tE X.K .bw fa)) : PI X tg (.Call (.Name "range" p) [a] [] pos) (tI pr X.K m (dRg (dC (.int 0)) fa)) :=
  piW (pi_range1 gr hr (pa_cons ha pa_nil (st1 na)) (st1 na)) fun σ H R ⟨H0, G0, G, ρ, items, ok, hf, q⟩ => by
    obtain ⟨m', n, h2, h3, h4, rfl⟩ := dRg_eq hf
    cases h2
    refine ⟨H0, G0, G, ρ, _, ok, h3, fun v H1 G1 s r => ⟨n, by rw [Rb.int r], (rgOk_eq h4).2.2.1, (rgOk_eq h4).2.2.2.1, ?_⟩⟩
    have e : (n - 0).toNat = n.toNat := by rw [Int.sub_zero]
    rw [← e]
    exact q _ _ _ s (it_rg h4)
theorem i_rg2 (gr : Gl X "range") (hr : X.mg "range" = none) (na : isStar a = false) (nb : isStar b = false) (ha : PE X a (tE X.K .bw fa)) (hb : PE X b (tE X.K .bw fb)) : PI X tg (.Call (.Name "range" p) [a, b] [] pos) (tI pr X.K m (dRg fa fb)) :=
  piW (pi_range2 gr hr (pa_cons ha (pa_cons hb pa_nil (st1 nb)) (st1 na)) (by rw [st1 na, st1 nb]; rfl) (by rw [st1 nb]; rfl)) fun σ H R ⟨H0, G0, G, ρ, items, ok, hf, q⟩ => by
    obtain ⟨m', n, h2, h3, h4, rfl⟩ := dRg_eq hf
    refine ⟨H0, G0, G, ρ, _, ok, h2, fun v H1 G1 s r => ⟨H0, G0, G1, ρ, _, ok.step s, h3, fun u H2 G2 s2 r2 => ⟨m', n, by rw [Rb.int r, Rb.int r2], ⟨(rgOk_eq h4).1, (rgOk_eq h4).2.1, (rgOk_eq h4).2.2.1, (rgOk_eq h4).2.2.2.1⟩, ?_⟩⟩⟩
    exact q _ _ _ (s.trans s2) (it_rg h4)
def rgDn (a b : Int) : List D := (List.range (a - b).toNat).map fun i => PyData.int (a - (i : Nat))
def aRg3 : D → D → D → Option (List D)
  | .int a, .int b, .int c => if c = -1 ∧ rgOk b a = true then some (rgDn a b) else none
  | _, _, _ => none
def dRg3 (f1 f2 f3 : Den) : Env → Option (List D) := fun ρ => (f1 ρ).bind fun x => (f2 ρ).bind fun y => (f3 ρ).bind fun z => aRg3 x y z
theorem aRg3_eq {x y z : D} {ds : List D} (h : aRg3 x y z = some ds) : ∃ a b, x = .int a ∧ y = .int b ∧ z = .int (-1) ∧ rgOk b a = true ∧ ds = rgDn a b := by
  unfold aRg3 at h
  split at h
  · split at h
    · rename_i hc
      obtain ⟨rfl, hk⟩ := hc
      cases h
      exact ⟨_, _, rfl, rfl, rfl, hk, rfl⟩
    · cases h
  · cases h
theorem it_rg3 {pr : Bool} {K : PySem.W.Frag} {G : Hp} {C : Hp → Prop} {a b : Int} (h : rgOk b a = true) : ItOk pr K G C (Itc a (-1) (a - b).toNat) (rgDn a b) where
  len := by
    unfold rgDn
    rw [List.length_map, List.length_range, sizeLine_eq]
    have := (rgOk_eq h).2.2.2.2
    omega
  stop := fun H G' i _ _ _ hi => by
    unfold rgDn at hi
    rw [List.length_map, List.length_range] at hi
    exact Nat.le_of_eq hi
  go := fun H G' i d _ g1 gh hi => by
    unfold rgDn at hi
    have hl : i < (a - b).toNat := by
      have := (List.getElem?_eq_some_iff.mp hi).1
      rwa [List.length_map, List.length_range] at this
    rw [List.getElem?_map, List.getElem?_range hl] at hi
    cases hi
    refine ⟨hl, fun x H' ⟨e1, e2⟩ => ?_⟩
    subst e1 e2
    have e : a + ((i : Nat) : Int) * (-1) = a - ((i : Nat) : Int) := by omega
    rw [e]
    exact ⟨G', Step.refl gh, .inl (.int _)⟩
theorem i_rg3 (gr : Gl X "range") (hr : X.mg "range" = none) (na : isStar a = false) (nb : isStar b = false) (nc : isStar c = false) (ha : PE X a (tE X.K .bw fa)) (hb : PE X b (tE X.K .bw fb)) (hc : PE X c (tE X.K .bw fc)) : PI X tg (.Call (.Name "range" p) [a, b, c] [] pos) (tI pr X.K m (dRg3 fa fb fc)) :=
  piW (pi_range3 gr hr (pa_cons ha (pa_cons hb (pa_cons hc pa_nil (st1 nc)) (star_ok nb _)) (star_ok na _)) (star_ok na _) (back_ok _ _ _ (by simp [nb, nc]))) fun σ H R ⟨H0, G0, G, ρ, items, ok, hf, q⟩ => by
    obtain ⟨x, h1, hf⟩ := Option.bind_eq_some_iff.mp hf
    obtain ⟨y, h2, hf⟩ := Option.bind_eq_some_iff.mp hf
    obtain ⟨z, h3, hf⟩ := Option.bind_eq_some_iff.mp hf
    obtain ⟨i, j, rfl, rfl, rfl, hk, rfl⟩ := aRg3_eq hf
    refine ⟨H0, G0, G, ρ, _, ok, h1, fun v H1 G1 s r => ⟨H0, G0, G1, ρ, _, ok.step s, h2, fun u H2 G2 s2 r2 => ⟨H0, G0, G2, ρ, _, (ok.step s).step s2, h3, fun w H3 G3 s3 r3 => ⟨i, j, -1, (i - j).toNat, by rw [Rb.int r, Rb.int r2, Rb.int r3], RgC.neg (rgOk_eq hk).2.2.1 (rgOk_eq hk).2.2.2.1 (rgOk_eq hk).1 (rgOk_eq hk).2.1, ?_⟩⟩⟩⟩
    exact q _ _ _ ((s.trans s2).trans s3) (it_rg3 hk)
def enumD : Nat → List D → List D
  | _, [] => []
  | n, d :: r => .tuple [.int (n : Nat), d] :: enumD (n + 1) r
theorem enumD_length : ∀ (n : Nat) (ds : List D), (enumD n ds).length = ds.length
  | _, [] => rfl
  | n, _ :: r => by simp [enumD, enumD_length (n + 1) r]
theorem enumD_get : ∀ (ds : List D) (n i : Nat) {d : D}, (enumD n ds)[i]? = some d → ∃ x, ds[i]? = some x ∧ d = .tuple [.int ((n + i : Nat) : Int), x]
  | [], _, _, _, h => by simp [enumD] at h
  | x :: r, n, 0, d, h => by simp [enumD] at h; exact ⟨x, rfl, h.symm⟩
  | x :: r, n, i + 1, d, h => by
    have h' : (enumD (n + 1) r)[i]? = some d := by simpa [enumD] using h
    obtain ⟨y, h1, h2⟩ := enumD_get r (n + 1) i h'
    refine ⟨y, by simpa using h1, ?_⟩
    rw [h2, show n + 1 + i = n + (i + 1) by omega]
def dEnum (f : Den) : Env → Option (List D) := fun ρ => (dItems0 f ρ).map (enumD 0)
theorem pair_new {K : PySem.W.Frag} {H G : Hp} {T : Addr} {x y : V} {dx dy : D} (gh : Same G H) (hT : H T = none) (r1 : Rp K G x dx) (r2 : Rp K G y dy) : ∃ G', Step K H G (upd H T (.tup [x, y])) G' ∧ RpW true K G' (.ref T) (.tuple [dx, dy]) :=
  ⟨upd G T (.tup [x, y]), Step.new gh hT, .inr ⟨rfl, T, [x, y], [dx, dy], rfl, rfl, .inl upd_same, RpAll.mono (same_new (gh.free hT)) (.cons r1 (.cons r2 .nil))⟩⟩
theorem it_enumT {K : PySem.W.Frag} {G : Hp} {C : Hp → Prop} {a : Addr} {vs : List V} {ds : List D} (h : Rd G a (.tup vs)) (r : RpAll K G vs ds) (hl : ds.length ≤ sizeLine) : ItOk true K G C (IteT K a) (enumD 0 ds) where
  len := by rw [enumD_length]; exact hl
  stop := fun H G' i _ g1 gh hi => ⟨vs, .inl (rdM (g1.trans gh) h), by rw [r.length]; rw [enumD_length] at hi; exact Nat.le_of_eq hi⟩
  go := fun H G' i d _ g1 gh hi => by
    obtain ⟨x, h1, rfl⟩ := enumD_get ds 0 i hi
    obtain ⟨v, h2, h3⟩ := r.get i h1
    refine ⟨⟨vs, v, .inl (rdM (g1.trans gh) h), h2⟩, fun y H' ⟨T, x', e1, e2, e3, e4⟩ => ?_⟩
    subst e1 e3
    have e5 := e4 vs (.inl (rdM (g1.trans gh) h))
    have e6 := pair_new gh e2 (.int (i : Nat)) ((r.atV h1 e5).mono g1)
    rw [Nat.zero_add]
    exact e6
theorem it_enumL {K : PySem.W.Frag} {G : Hp} {C : Hp → Prop} {a : Addr} {vs : List V} {ds : List D} (h : ∀ H G', C H → Same G G' → Same G' H → Rd H a (.lst vs)) (r : RpAll K G vs ds) (hl : ds.length ≤ sizeLine) : ItOk true K G C (Ite K a) (enumD 0 ds) where
  len := by rw [enumD_length]; exact hl
  stop := fun H G' i hC g1 gh hi => ⟨vs, .inl (h H G' hC g1 gh), by rw [r.length]; rw [enumD_length] at hi; exact Nat.le_of_eq hi⟩
  go := fun H G' i d hC g1 gh hi => by
    obtain ⟨x, h1, rfl⟩ := enumD_get ds 0 i hi
    obtain ⟨v, h2, h3⟩ := r.get i h1
    refine ⟨⟨vs, v, .inl (h H G' hC g1 gh), h2⟩, fun y H' ⟨T, x', e1, e2, e3, e4⟩ => ?_⟩
    subst e1 e3
    have e5 := e4 vs (.inl (h H G' hC g1 gh))
    have e6 := pair_new gh e2 (.int (i : Nat)) ((r.atV h1 e5).mono g1)
    rw [Nat.zero_add]
    exact e6
theorem dEnum_eq {ρ : Env} {items : List D} (h : dEnum f ρ = some items) : ∃ ds, (f ρ = some (.list ds) ∨ f ρ = some (.tuple ds)) ∧ items = enumD 0 ds := by
  unfold dEnum dItems0 at h
  split at h
  · cases h; exact ⟨_, .inl (by assumption), rfl⟩
  · cases h; exact ⟨_, .inr (by assumption), rfl⟩
  · cases h
theorem i_enum {elts : List Expr} {kk : Nat} {tpos : Pos} (gl : Gl X "enumerate") (hm : X.mg "enumerate" = none) (na : isStar e = false) (he : PE X e (tE X.K .fz f)) : PI X (.Tuple elts kk tpos) (.Call (.Name "enumerate" p) [e] [] pos) (tI true X.K .fz (dEnum f)) :=
  piW (piL (PI.or (pi_enum gl hm (pa_cons he pa_nil (st1 na)) (st1 na)) (pi_enumT gl hm (pa_cons he pa_nil (st1 na)) (st1 na)))) fun σ H R ⟨H0, G0, G, ρ, items, ok, hf, q⟩ => by
    obtain ⟨ds, e1 | e1, rfl⟩ := dEnum_eq hf
    · refine .inl ⟨H0, G0, G, ρ, _, ok, e1, fun v H1 G1 s r => ?_⟩
      cases r with
      | lst h rr => exact ⟨_, _, rfl, .inl (rdM s.gh (.inl h)), ds.length, .inl ⟨_, _, .inl (.inl (rdM s.gh (.inl h))), by rw [rr.length]; exact Nat.le_refl _⟩, fun hl => q _ _ _ s (it_enumL (fun H G' _ g1 gh => rdM (g1.trans gh) (.inl h)) rr hl)⟩
    · refine .inr ⟨H0, G0, G, ρ, _, ok, e1, fun v H1 G1 s r => ?_⟩
      cases r with
      | tup h rr => exact ⟨_, _, rfl, .inl (rdM s.gh h.rd), ds.length, .inl ⟨_, _, .inr (.inl (rdM s.gh h.rd)), by rw [rr.length]; exact Nat.le_refl _⟩, fun hl => q _ _ _ s (it_enumT h.rd rr hl)⟩
theorem i_enumB {elts : List Expr} {kk : Nat} {tpos : Pos} (gl : Gl X "enumerate") (hm : X.mg "enumerate" = none) (na : isStar e = false) (he : PE X e (tE X.K .bw f)) : PI X (.Tuple elts kk tpos) (.Call (.Name "enumerate" p) [e] [] pos) (tI true X.K .bw (dEnum f)) :=
  piW (piL (PI.or (pi_enum gl hm (pa_cons he pa_nil (st1 na)) (st1 na)) (pi_enumT gl hm (pa_cons he pa_nil (st1 na)) (st1 na)))) fun σ H R ⟨H0, G0, G, ρ, items, ok, hf, q⟩ => by
    obtain ⟨ds, e1 | e1, rfl⟩ := dEnum_eq hf
    · refine .inl ⟨H0, G0, G, ρ, _, ok, e1, fun v H1 G1 s r => ?_⟩
      obtain ⟨a, vs, rfl, h, rr⟩ := Rb.lst s.gh r
      exact ⟨_, _, rfl, .inl h, ds.length, .inl ⟨_, _, .inl (.inl h), by rw [rr.length]; exact Nat.le_refl _⟩, fun hl => q _ _ _ s (it_enumL (fun H G' hC g1 gh => rdT hC h (fun _ z => nomatch z)) rr hl)⟩
    · refine .inr ⟨H0, G0, G, ρ, _, ok, e1, fun v H1 G1 s r => ?_⟩
      obtain ⟨a, vs, rfl, h, rr⟩ := Rb.tup r
      exact ⟨_, _, rfl, .inl (rdM s.gh h.rd), ds.length, .inl ⟨_, _, .inr (.inl (rdM s.gh h.rd)), by rw [rr.length]; exact Nat.le_refl _⟩, fun hl => q _ _ _ s (it_enumT h.rd rr hl)⟩
def zipD : List D → List D → List D
  | x :: xs, y :: ys => .tuple [x, y] :: zipD xs ys
  | _, _ => []
theorem zipD_length : ∀ xs ys : List D, (zipD xs ys).length = min xs.length ys.length
  | [], _ => by simp [zipD]
  | _ :: _, [] => by simp [zipD]
  | x :: xs, y :: ys => by simp [zipD, zipD_length xs ys]
theorem zipD_get : ∀ (xs ys : List D) (i : Nat) {d : D}, (zipD xs ys)[i]? = some d → ∃ x y, xs[i]? = some x ∧ ys[i]? = some y ∧ d = .tuple [x, y]
  | [], _, _, _, h => by simp [zipD] at h
  | _ :: _, [], _, _, h => by simp [zipD] at h
  | x :: xs, y :: ys, 0, d, h => by simp [zipD] at h; exact ⟨x, y, rfl, rfl, h.symm⟩
  | x :: xs, y :: ys, i + 1, d, h => by
    obtain ⟨a, b, h1, h2, h3⟩ := zipD_get xs ys i (by simpa [zipD] using h)
    exact ⟨a, b, by simpa using h1, by simpa using h2, h3⟩
def dZip (f g : Den) : Env → Option (List D) := fun ρ => match f ρ, g ρ with
  | some (.list xs), some (.list ys) => some (zipD xs ys)
  | some (.tuple xs), some (.tuple ys) => some (zipD xs ys)
  | _, _ => none
theorem it_zipT {K : PySem.W.Frag} {G : Hp} {C : Hp → Prop} {a b : Addr} {vs us : List V} {ds es : List D} (h : Rd G a (.tup vs)) (r : RpAll K G vs ds) (h' : Rd G b (.tup us)) (r' : RpAll K G us es) (hl : ds.length ≤ sizeLine) : ItOk true K G C (ItzT K a b) (zipD ds es) where
  len := by rw [zipD_length]; omega
  stop := fun H G' i _ g1 gh hi => ⟨vs, us, .inl (rdM (g1.trans gh) h), .inl (rdM (g1.trans gh) h'), by rw [r.length, r'.length]; rw [zipD_length] at hi; omega⟩
  go := fun H G' i d _ g1 gh hi => by
    obtain ⟨x, y, h1, h2, rfl⟩ := zipD_get ds es i hi
    obtain ⟨v, q1, q2⟩ := r.get i h1
    obtain ⟨u, q3, q4⟩ := r'.get i h2
    refine ⟨⟨vs, us, v, u, .inl (rdM (g1.trans gh) h), .inl (rdM (g1.trans gh) h'), q1, q3⟩, fun z H' ⟨T, x', y', e1, e2, e3, e4, e5⟩ => ?_⟩
    subst e1 e3
    exact pair_new gh e2 ((r.atV h1 (e4 vs (.inl (rdM (g1.trans gh) h)))).mono g1) ((r'.atV h2 (e5 us (.inl (rdM (g1.trans gh) h')))).mono g1)
theorem it_zipL {K : PySem.W.Frag} {G : Hp} {C : Hp → Prop} {a b : Addr} {vs us : List V} {ds es : List D} (h : ∀ H G', C H → Same G G' → Same G' H → Rd H a (.lst vs)) (r : RpAll K G vs ds) (h' : ∀ H G', C H → Same G G' → Same G' H → Rd H b (.lst us)) (r' : RpAll K G us es) (hl : ds.length ≤ sizeLine) : ItOk true K G C (Itz K a b) (zipD ds es) where
  len := by rw [zipD_length]; omega
  stop := fun H G' i hC g1 gh hi => ⟨vs, us, .inl (h H G' hC g1 gh), .inl (h' H G' hC g1 gh), by rw [r.length, r'.length]; rw [zipD_length] at hi; omega⟩
  go := fun H G' i d hC g1 gh hi => by
    obtain ⟨x, y, h1, h2, rfl⟩ := zipD_get ds es i hi
    obtain ⟨v, q1, q2⟩ := r.get i h1
    obtain ⟨u, q3, q4⟩ := r'.get i h2
    refine ⟨⟨vs, us, v, u, .inl (h H G' hC g1 gh), .inl (h' H G' hC g1 gh), q1, q3⟩, fun z H' ⟨T, x', y', e1, e2, e3, e4, e5⟩ => ?_⟩
    subst e1 e3
    exact pair_new gh e2 ((r.atV h1 (e4 vs (.inl (h H G' hC g1 gh)))).mono g1) ((r'.atV h2 (e5 us (.inl (h' H G' hC g1 gh)))).mono g1)
theorem dZip_eq {f g : Den} {ρ : Env} {items : List D} (h : dZip f g ρ = some items) : ∃ xs ys, items = zipD xs ys ∧ ((f ρ = some (.list xs) ∧ g ρ = some (.list ys)) ∨ (f ρ = some (.tuple xs) ∧ g ρ = some (.tuple ys))) := by
  unfold dZip at h
  split at h
  · cases h; exact ⟨_, _, rfl, .inl ⟨by assumption, by assumption⟩⟩
  · cases h; exact ⟨_, _, rfl, .inr ⟨by assumption, by assumption⟩⟩
  · cases h
theorem i_zip {elts : List Expr} {kk : Nat} {tpos : Pos} (gl : Gl X "zip") (hm : X.mg "zip" = none) (na : isStar a = false) (nb : isStar b = false) (ha : PE X a (tE X.K .fz fa)) (hb : PE X b (tE X.K .fz fb)) : PI X (.Tuple elts kk tpos) (.Call (.Name "zip" p) [a, b] [] pos) (tI true X.K .fz (dZip fa fb)) :=
  piW (piL (pi_zipA gl hm (pa_cons ha (pa_cons hb pa_nil (st1 nb)) (st1 na)) (st1 na) (back_ok _ _ _ (by simp [nb])))) fun σ H R ⟨H0, G0, G, ρ, items, ok, hf, q⟩ => by
    obtain ⟨xs, ys, rfl, ⟨e1, e2⟩ | ⟨e1, e2⟩⟩ := dZip_eq hf
    · refine ⟨H0, G0, G, ρ, _, ok, e1, fun v H1 G1 s r => ⟨H0, G0, G1, ρ, _, ok.step s, e2, fun u H2 G2 s2 r2 => ?_⟩⟩
      cases r with
      | lst h rr =>
        cases r2 with
        | lst h2 rr2 =>
          have h' := rdM s2.gg (.inl h)
          have rr' := rr.mono s2.gg
          exact ⟨_, _, _, _, rfl, .inl ⟨.inl (rdM s2.gh h'), .inl (rdM s2.gh (.inl h2)), xs.length, .inl ⟨_, _, .inl (.inl (rdM s2.gh h')), by rw [rr'.length]; exact Nat.le_refl _⟩, fun hl => q _ _ _ (s.trans s2) (it_zipL (fun H G' _ g1 gh => rdM (g1.trans gh) h') rr' (fun H G' _ g1 gh => rdM (g1.trans gh) (.inl h2)) rr2 hl)⟩⟩
    · refine ⟨H0, G0, G, ρ, _, ok, e1, fun v H1 G1 s r => ⟨H0, G0, G1, ρ, _, ok.step s, e2, fun u H2 G2 s2 r2 => ?_⟩⟩
      cases r with
      | tup h rr =>
        cases r2 with
        | tup h2 rr2 =>
          have h' := rdM s2.gg h.rd
          have rr' := rr.mono s2.gg
          exact ⟨_, _, _, _, rfl, .inr ⟨.inl (rdM s2.gh h'), .inl (rdM s2.gh h2.rd), xs.length, .inl ⟨_, _, .inr (.inl (rdM s2.gh h')), by rw [rr'.length]; exact Nat.le_refl _⟩, fun hl => q _ _ _ (s.trans s2) (it_zipT h' rr' h2.rd rr2 hl)⟩⟩
theorem i_zipB {elts : List Expr} {kk : Nat} {tpos : Pos} (gl : Gl X "zip") (hm : X.mg "zip" = none) (na : isStar a = false) (nb : isStar b = false) (ha : PE X a (tE X.K .bw fa)) (hb : PE X b (tE X.K .bw fb)) : PI X (.Tuple elts kk tpos) (.Call (.Name "zip" p) [a, b] [] pos) (tI true X.K .bw (dZip fa fb)) :=
  piW (piL (pi_zipA gl hm (pa_cons ha (pa_cons hb pa_nil (st1 nb)) (st1 na)) (st1 na) (back_ok _ _ _ (by simp [nb])))) fun σ H R ⟨H0, G0, G, ρ, items, ok, hf, q⟩ => by
    obtain ⟨xs, ys, rfl, ⟨e1, e2⟩ | ⟨e1, e2⟩⟩ := dZip_eq hf
    · refine ⟨H0, G0, G, ρ, _, ok, e1, fun v H1 G1 s r => ⟨H0, G0, G1, ρ, _, ok.step s, e2, fun u H2 G2 s2 r2 => ?_⟩⟩
      obtain ⟨a, vs, rfl, h, rr⟩ := Rb.lst s2.gh (Rb.step r s2)
      obtain ⟨b, us, rfl, h', rr'⟩ := Rb.lst s2.gh r2
      exact ⟨_, _, _, _, rfl, .inl ⟨.inl h, .inl h', xs.length, .inl ⟨_, _, .inl (.inl h), by rw [rr.length]; exact Nat.le_refl _⟩, fun hl => q _ _ _ (s.trans s2) (it_zipL (fun H G' hC g1 gh => rdT hC h (fun _ z => nomatch z)) rr (fun H G' hC g1 gh => rdT hC h' (fun _ z => nomatch z)) rr' hl)⟩⟩
    · refine ⟨H0, G0, G, ρ, _, ok, e1, fun v H1 G1 s r => ⟨H0, G0, G1, ρ, _, ok.step s, e2, fun u H2 G2 s2 r2 => ?_⟩⟩
      obtain ⟨a, vs, rfl, h, rr⟩ := Rb.tup (Rb.step r s2)
      obtain ⟨b, us, rfl, h', rr'⟩ := Rb.tup r2
      exact ⟨_, _, _, _, rfl, .inr ⟨.inl (rdM s2.gh h.rd), .inl (rdM s2.gh h'.rd), xs.length, .inl ⟨_, _, .inr (.inl (rdM s2.gh h.rd)), by rw [rr.length]; exact Nat.le_refl _⟩, fun hl => q _ _ _ (s.trans s2) (it_zipT h.rd rr h'.rd rr' hl)⟩⟩
end
end PF
namespace PF
open PySem PySem.Spec PyProof.Rows L2 RZ
def Only (ts : List Nat) (σ σ' : St) : Prop := ∀ vs : List Nat, (∀ t ∈ ts, t ∈ vs) → wipe σ' vs = wipe σ vs
theorem Only.refl (ts : List Nat) (σ : St) : Only ts σ σ := fun _ _ => rfl
theorem wipe_get (σ : St) : ∀ (vs : List Nat) (j : Nat), (wipe σ vs)[j]? = if j ∈ vs then (if j < σ.length then some none else none) else σ[j]?
  | [], j => by simp [wipe]
  | v :: vs, j => by
    unfold wipe
    rw [List.getElem?_set, wipe_length, wipe_get σ vs j]
    by_cases h : v = j
    · subst h
      simp
    · have h' : ¬ j = v := fun e => h e.symm
      simp [h, h']
theorem Only.set {i : Nat} {σ : St} {x : Option V} : Only [i] σ (σ.set i x) := fun vs h => by
  have hi := h i (List.mem_singleton.mpr rfl)
  refine List.ext_getElem? fun j => ?_
  rw [wipe_get, wipe_get, List.length_set, List.getElem?_set]
  by_cases hj : j ∈ vs
  · simp [hj]
  · have : ¬ i = j := fun e => hj (e ▸ hi)
    simp [hj, this]
theorem Only.trans {ts us : List Nat} {σ σ1 σ2 : St} (a : Only ts σ σ1) (b : Only us σ1 σ2) : Only (ts ++ us) σ σ2 := fun vs h =>
  (b vs fun t ht => h t (List.mem_append_right _ ht)).trans (a vs fun t ht => h t (List.mem_append_left _ ht))
def tGo (pr : Bool) (K : PySem.W.Frag) (ts : List Nat) (b : D → Env → Option Env) : TG := fun v σ H Q => ∃ H0 G0 G ρ d ρ', EnvOk K H0 G0 H G σ ρ ∧ RpW pr K G v d ∧ b d ρ = some ρ' ∧ ∀ σ', EnvOk K H0 G0 H G σ' ρ' → Only ts σ σ' → Q σ' H
def tGos (K : PySem.W.Frag) (ts : List Nat) (b : List D → Env → Option Env) : TGs := fun vs σ H Q => ∃ H0 G0 G ρ ds ρ', EnvOk K H0 G0 H G σ ρ ∧ RpAll K G vs ds ∧ b ds ρ = some ρ' ∧ ∀ σ', EnvOk K H0 G0 H G σ' ρ' → Only ts σ σ' → Q σ' H
section
variable {K : PySem.W.Frag} {H0 G0 H G H' G' : Hp} {σ : St} {ρ : Env}
theorem EnvOk.set_val {i : Nat} {v : V} {d : D} (e : EnvOk K H0 G0 H G σ ρ) (r : Rp K G v d) : EnvOk K H0 G0 H G (σ.set i (some v)) (ρ.set i (some (.val d))) where
  tabs := e.tabs
  len := by rw [List.length_set, List.length_set]; exact e.len
  st := e.st
  sl := fun j sv h => by
    rw [List.getElem?_set] at h ⊢
    by_cases hj : i = j
    · subst hj
      by_cases hl : i < ρ.length
      · have hl' : i < σ.length := by rw [e.len]; exact hl
        simp only [hl, hl', if_true] at h ⊢
        cases h
        exact ⟨v, rfl, r⟩
      · simp [hl] at h
    · simp only [hj, if_false] at h ⊢
      exact e.sl j sv h
  sep := fun j k xs ys hjk h1 h2 => by
    rw [List.getElem?_set] at h1 h2
    by_cases hj : i = j
    · subst hj
      by_cases hl : i < ρ.length
      · simp [hl] at h1
      · simp [hl] at h1
    · by_cases hk : i = k
      · subst hk
        by_cases hl : i < ρ.length
        · simp [hl] at h2
        · simp [hl] at h2
      · simp only [hj, hk, if_false] at h1 h2
        rw [List.getElem?_set_ne hj, List.getElem?_set_ne hk]
        exact e.sep j k xs ys hjk h1 h2
  sepD := fun j k xs ys hjk h1 h2 => by
    rw [List.getElem?_set] at h1 h2
    by_cases hj : i = j
    · subst hj
      by_cases hl : i < ρ.length
      · simp [hl] at h1
      · simp [hl] at h1
    · by_cases hk : i = k
      · subst hk
        by_cases hl : i < ρ.length
        · simp [hl] at h2
        · simp [hl] at h2
      · simp only [hj, hk, if_false] at h1 h2
        rw [List.getElem?_set_ne hj, List.getElem?_set_ne hk]
        exact e.sepD j k xs ys hjk h1 h2
theorem EnvOk.set_own {i : Nat} {a : Addr} {vs : List V} {xs : List D} (e : EnvOk K H0 G0 H G σ ρ) (s : Step K H G H' G') (hn : H a = none) (ha : H' a = some (.lst vs)) (hg : G' a = none) (r : RpAll K G' vs xs) : EnvOk K H0 G0 H' G' (σ.set i (some (.ref a))) (ρ.set i (some (.own xs))) := by
  have e' := e.step s
  have other : ∀ (j : Nat) ys, ρ[j]? = some (some (.own ys)) → σ[j]? ≠ some (some (.ref a)) := fun j ys h z => by
    obtain ⟨v, h1, b, us, h2, h3, _⟩ := e.sl j _ h
    rw [z] at h1
    have e1 : V.ref a = v := Option.some.inj (Option.some.inj h1)
    rw [h2] at e1
    have e2 : a = b := V.ref.inj e1
    rw [← e2, hn] at h3
    cases h3
  refine ⟨e.tabs, by rw [List.length_set, List.length_set]; exact e.len, e'.st, fun j sv h => ?_, fun j k ys zs hjk h1 h2 => ?_, fun j k xs ys hjk h1 h2 => ?_⟩
  · rw [List.getElem?_set] at h ⊢
    by_cases hj : i = j
    · subst hj
      by_cases hl : i < ρ.length
      · have hl' : i < σ.length := by rw [e.len]; exact hl
        simp only [hl, hl', if_true] at h ⊢
        cases h
        exact ⟨_, rfl, a, vs, rfl, ha, r, hg, e.st.same.free hn⟩
      · simp [hl] at h
    · simp only [hj, if_false] at h ⊢
      exact e'.sl j sv h
  · rw [List.getElem?_set] at h1 h2
    rw [List.getElem?_set, List.getElem?_set]
    by_cases hj : i = j
    · subst hj
      have hk : ¬ i = k := hjk
      by_cases hl : i < ρ.length
      · have hl' : i < σ.length := by rw [e.len]; exact hl
        simp only [hk, if_false] at h2
        simp only [hl', if_true, hk, if_false]
        exact fun z => other k zs h2 z.symm
      · simp [hl] at h1
    · by_cases hk : i = k
      · subst hk
        by_cases hl : i < ρ.length
        · have hl' : i < σ.length := by rw [e.len]; exact hl
          simp only [hj, if_false] at h1
          simp only [hl', if_true, hj, if_false]
          exact fun z => other j ys h1 z
        · simp [hl] at h2
      · simp only [hj, hk, if_false] at h1 h2 ⊢
        exact e.sep j k ys zs hjk h1 h2
  · rw [List.getElem?_set] at h1 h2
    by_cases hj : i = j
    · subst hj
      by_cases hl : i < ρ.length
      · simp [hl] at h1
      · simp [hl] at h1
    · by_cases hk : i = k
      · subst hk
        by_cases hl : i < ρ.length
        · simp [hl] at h2
        · simp [hl] at h2
      · simp only [hj, hk, if_false] at h1 h2
        rw [List.getElem?_set_ne hj, List.getElem?_set_ne hk]
        exact e.sepD j k xs ys hjk h1 h2
theorem EnvOk.set_dic {i : Nat} {a : Addr} {ep : Nat} {vs : List DN.Ent} {xs : List (D × D)} (e : EnvOk K H0 G0 H G σ ρ) (s : Step K H G H' G') (hn : H a = none) (ha : H' a = some (DN.DK a ep vs)) (hg : G' a = none) (r : RpKV K G' vs xs) : EnvOk K H0 G0 H' G' (σ.set i (some (.ref a))) (ρ.set i (some (.dic xs))) := by
  have e' := e.step s
  have other : ∀ (j : Nat) ys, ρ[j]? = some (some (.dic ys)) → σ[j]? ≠ some (some (.ref a)) := fun j ys h z => by
    obtain ⟨v, h1, b, _, us, h2, h3, _⟩ := e.sl j _ h
    rw [z] at h1
    have e1 : V.ref a = v := Option.some.inj (Option.some.inj h1)
    rw [h2] at e1
    have e2 : a = b := V.ref.inj e1
    rw [← e2, hn] at h3
    cases h3
  refine ⟨e.tabs, by rw [List.length_set, List.length_set]; exact e.len, e'.st, fun j sv h => ?_, fun j k xs ys hjk h1 h2 => ?_, fun j k ys zs hjk h1 h2 => ?_⟩
  · rw [List.getElem?_set] at h ⊢
    by_cases hj : i = j
    · subst hj
      by_cases hl : i < ρ.length
      · have hl' : i < σ.length := by rw [e.len]; exact hl
        simp only [hl, hl', if_true] at h ⊢
        cases h
        exact ⟨_, rfl, a, ep, vs, rfl, ha, r, hg, e.st.same.free hn⟩
      · simp [hl] at h
    · simp only [hj, if_false] at h ⊢
      exact e'.sl j sv h
  · rw [List.getElem?_set] at h1 h2
    by_cases hj : i = j
    · subst hj
      by_cases hl : i < ρ.length
      · simp [hl] at h1
      · simp [hl] at h1
    · by_cases hk : i = k
      · subst hk
        by_cases hl : i < ρ.length
        · simp [hl] at h2
        · simp [hl] at h2
      · simp only [hj, hk, if_false] at h1 h2
        rw [List.getElem?_set_ne hj, List.getElem?_set_ne hk]
        exact e.sep j k xs ys hjk h1 h2
  · rw [List.getElem?_set] at h1 h2
    rw [List.getElem?_set, List.getElem?_set]
    by_cases hj : i = j
    · subst hj
      have hk : ¬ i = k := hjk
      by_cases hl : i < ρ.length
      · have hl' : i < σ.length := by rw [e.len]; exact hl
        simp only [hk, if_false] at h2
        simp only [hl', if_true, hk, if_false]
        exact fun z => other k zs h2 z.symm
      · simp [hl] at h1
    · by_cases hk : i = k
      · subst hk
        by_cases hl : i < ρ.length
        · have hl' : i < σ.length := by rw [e.len]; exact hl
          simp only [hj, if_false] at h1
          simp only [hl', if_true, hj, if_false]
          exact fun z => other j ys h1 z
        · simp [hl] at h2
      · simp only [hj, hk, if_false] at h1 h2 ⊢
        exact e.sepD j k ys zs hjk h1 h2
def wipeE (ρ : Env) : List Nat → Env
  | [] => ρ
  | v :: vs => (wipeE ρ vs).set v none
theorem EnvOk.unset {i : Nat} (e : EnvOk K H0 G0 H G σ ρ) : EnvOk K H0 G0 H G (σ.set i none) (ρ.set i none) where
  tabs := e.tabs
  len := by rw [List.length_set, List.length_set]; exact e.len
  st := e.st
  sl := fun j sv h => by
    rw [List.getElem?_set] at h ⊢
    by_cases hj : i = j
    · subst hj
      by_cases hl : i < ρ.length
      · simp [hl] at h
      · simp [hl] at h
    · simp only [hj, if_false] at h ⊢
      exact e.sl j sv h
  sep := fun j k xs ys hjk h1 h2 => by
    rw [List.getElem?_set] at h1 h2
    by_cases hj : i = j
    · subst hj
      by_cases hl : i < ρ.length
      · simp [hl] at h1
      · simp [hl] at h1
    · by_cases hk : i = k
      · subst hk
        by_cases hl : i < ρ.length
        · simp [hl] at h2
        · simp [hl] at h2
      · simp only [hj, hk, if_false] at h1 h2
        rw [List.getElem?_set_ne hj, List.getElem?_set_ne hk]
        exact e.sep j k xs ys hjk h1 h2
  sepD := fun j k xs ys hjk h1 h2 => by
    rw [List.getElem?_set] at h1 h2
    by_cases hj : i = j
    · subst hj
      by_cases hl : i < ρ.length
      · simp [hl] at h1
      · simp [hl] at h1
    · by_cases hk : i = k
      · subst hk
        by_cases hl : i < ρ.length
        · simp [hl] at h2
        · simp [hl] at h2
      · simp only [hj, hk, if_false] at h1 h2
        rw [List.getElem?_set_ne hj, List.getElem?_set_ne hk]
        exact e.sepD j k xs ys hjk h1 h2
theorem EnvOk.wipe (e : EnvOk K H0 G0 H G σ ρ) : ∀ vs : List Nat, EnvOk K H0 G0 H G (L2.wipe σ vs) (wipeE ρ vs)
  | [] => e
  | v :: vs => (EnvOk.wipe e vs).unset
end
section
variable {X : Cx} {tg a b c e : Expr} {es : List Expr} {fa fb fc f : Den} {fs : List Den} {pos p : Pos} {m : Md}
def bName (i : Nat) : D → Env → Option Env := fun d ρ => some (ρ.set i (some (.val d)))
theorem g_name {i : Nat} {x : Str} (hN : X.N.Nodup) (hi : X.N[i]? = some x) (hx : Loc X.env.scope x) (hf : X.fn x = true ∨ X.env.scope.names.lookup x = some .local) : PG X (.Name x pos) (tGo false X.K [i] (bName i)) :=
  pgW (pg_name hN hi hx hf) fun v σ H Q ⟨H0, G0, G, ρ, d, ρ', ok, r, hb, q⟩ => by
    cases hb
    rcases r with r | ⟨z, _⟩
    · exact q _ (ok.set_val r) Only.set
    · cases z
def bNil : List D → Env → Option Env
  | [], ρ => some ρ
  | _ :: _, _ => none
def bCons (b : D → Env → Option Env) (bs : List D → Env → Option Env) : List D → Env → Option Env
  | [], _ => none
  | d :: ds, ρ => (b d ρ).bind (bs ds)
def bTup (bs : List D → Env → Option Env) : D → Env → Option Env
  | .tuple ds, ρ => bs ds ρ
  | _, _ => none
theorem pgsW {es : List Expr} {t t' : TGs} (h : PGs X es t) (w : ∀ v σ H Q, t' v σ H Q → t v σ H Q) : PGs X es t' := ⟨fun pins s σ H v u Q I r q => h.run pins s σ H v u Q I r (w v σ H Q q)⟩
theorem gs_nil : PGs X [] (tGos X.K [] bNil) := pgsW pgs_nil fun v σ H Q ⟨H0, G0, G, ρ, ds, ρ', ok, r, hb, q⟩ => by
  cases ds with
  | nil =>
    cases hb
    cases r
    exact ⟨rfl, q _ ok (Only.refl _ _)⟩
  | cons _ _ => cases hb
theorem assign_star (h : isStar e = false) (env : PySem.Env) : (assignEach (e :: es) env) = (false, assign e env) :: assignEach es env := by
  cases e <;> first | rfl | (exact absurd h (by simp [isStar]))
theorem gs_cons {pr : Bool} {ts us : List Nat} {bb : D → Env → Option Env} {bs : List D → Env → Option Env} (hs : isStar e = false) (h1 : PG X e (tGo pr X.K ts bb)) (h2 : PGs X es (tGos X.K us bs)) : PGs X (e :: es) (tGos X.K (ts ++ us) (bCons bb bs)) :=
  pgsW (pgs_cons h1 h2 (by rw [assign_star hs]; rfl)) fun v σ H Q ⟨H0, G0, G, ρ, ds, ρ', ok, r, hb, q⟩ => by
    cases r with
    | nil => cases hb
    | @cons v vs d ds r1 r2 =>
      have hb' : (bb d ρ).bind (bs ds) = some ρ' := hb
      cases e1 : bb d ρ with
      | none => rw [e1] at hb'; cases hb'
      | some ρ1 =>
        rw [e1] at hb'
        refine ⟨v, vs, rfl, H0, G0, G, ρ, d, ρ1, ok, .inl r1, e1, fun σ1 ok1 o1 => ?_⟩
        exact ⟨H0, G0, G, ρ1, ds, ρ', ok1, r2, hb', fun σ2 ok2 o2 => q σ2 ok2 (o1.trans o2)⟩
theorem bs_len_nil : ∀ (ds : List D) (ρ ρ' : Env), bNil ds ρ = some ρ' → ds.length = 0
  | [], _, _, _ => rfl
  | _ :: _, _, _, h => by cases h
theorem bs_len_cons {n : Nat} {bb : D → Env → Option Env} {bs : List D → Env → Option Env} (h : ∀ ds ρ ρ', bs ds ρ = some ρ' → ds.length = n) : ∀ (ds : List D) (ρ ρ' : Env), bCons bb bs ds ρ = some ρ' → ds.length = n + 1
  | [], _, _, h => by cases h
  | d :: ds, ρ, ρ', hb => by
    have hb' : (bb d ρ).bind (bs ds) = some ρ' := hb
    cases e1 : bb d ρ with
    | none => rw [e1] at hb'; cases hb'
    | some ρ1 =>
      rw [e1] at hb'
      rw [List.length_cons, h _ _ _ hb']
theorem assign_len (env : PySem.Env) : ∀ es : List Expr, (assignEach es env).length = es.length
  | [] => rfl
  | e :: r => by
    have h := assign_len env r
    cases e <;> (show (assignEach r env).length + 1 = r.length + 1; rw [h])
theorem assign_nostar (env : PySem.Env) : ∀ es : List Expr, es.all (fun e => !isStar e) = true → (assignEach es env).findIdx? (·.1) = none
  | [], _ => rfl
  | e :: r, h => by
    simp only [List.all_cons, Bool.and_eq_true] at h
    rw [assign_star (by simpa using h.1), List.findIdx?_cons, assign_nostar env r h.2]
    rfl
theorem g_tup {pr : Bool} {ts : List Nat} {bs : List D → Env → Option Env} {k : Nat} (hc : X.calm = true) (hs : es.all (fun e => !isStar e) = true) (hl : ∀ ds ρ ρ', bs ds ρ = some ρ' → ds.length = es.length) (h : PGs X es (tGos X.K ts bs)) : PG X (.Tuple es k pos) (tGo pr X.K ts (bTup bs)) :=
  pgW (pg_tup hc h (assign_len _ es) (assign_nostar _ es hs)) fun v σ H Q ⟨H0, G0, G, ρ, d, ρ', ok, r, hb, q⟩ => by
    cases d with
    | tuple ds =>
      have hb' : bs ds ρ = some ρ' := hb
      rcases r with r | ⟨_, a, vs, es', rfl, e2, h1, r1⟩
      · cases r with
        | tup h1 r1 => exact ⟨_, _, rfl, .inl (rdM ok.gh h1.rd), by rw [r1.length]; exact hl _ _ _ hb', H0, G0, G, ρ, ds, ρ', ok, r1, hb', q⟩
      · cases e2
        exact ⟨_, _, rfl, .inl (rdM ok.gh h1), by rw [r1.length]; exact hl _ _ _ hb', H0, G0, G, ρ, ds, ρ', ok, r1, hb', q⟩
    | _ => cases hb
def compL (b : D → Env → Option Env) (c : Env → Option Bool) (e : Den) (ρ0 : Env) : List D → Option (List D)
  | [] => some []
  | x :: xs => (b x ρ0).bind fun ρ1 => (c ρ1).bind fun ok => if ok = true then (e ρ1).bind fun y => (compL b c e ρ0 xs).bind fun ys => some (y :: ys) else compL b c e ρ0 xs
def dComp (it : Env → Option (List D)) (vs : List Nat) (b : D → Env → Option Env) (c : Env → Option Bool) (e : Den) : Den := fun ρ => (it ρ).bind fun items => (compL b c e (wipeE ρ vs) items).map .list
theorem wipe_wipe (σ : St) (vs : List Nat) : wipe (wipe σ vs) vs = wipe σ vs := by
  refine List.ext_getElem? fun j => ?_
  rw [wipe_get, wipe_get, wipe_length]
  by_cases hj : j ∈ vs
  · simp [hj]
  · simp [hj]
theorem comp_read {pr : Bool} {K : PySem.W.Frag} {it : Env → Option (List D)} {vs ts : List Nat} {bb : D → Env → Option Env} {cc : Env → Option Bool} {ee : Den} (hts : ∀ t ∈ ts, t ∈ vs) {σ : St} {H : Hp} {Q : VK} (h : tE K .ow (dComp it vs bb cc ee) σ H Q) :
    tLc (tI pr K .bw it) (tGo pr K ts bb) (tT K cc) (tE K .fz ee) vs σ H Q := by
  obtain ⟨H0, G0, G, ρ, d, ok, hf, q⟩ := h
  unfold dComp at hf
  cases e1 : it ρ with
  | none => rw [e1] at hf; cases hf
  | some items =>
    rw [e1] at hf
    cases e2 : compL bb cc ee (wipeE ρ vs) items with
    | none => simp only [Option.bind_some, e2, Option.map_none] at hf; cases hf
    | some res =>
      simp only [Option.bind_some, e2, Option.map_some] at hf
      cases hf
      refine ⟨H0, G0, G, ρ, items, ok, e1, fun J H1 G1 s1 hJ D0 hD0 => ?_⟩
      have ok1 := ok.step s1
      refine ⟨fun i mm Hc => ∃ Gc accV accD, i + mm = items.length ∧ Step K H1 G1 Hc Gc ∧ Hc D0 = some (.lst accV) ∧ Gc D0 = none ∧ RpAll K Gc accV accD ∧ accD.length ≤ i ∧ (compL bb cc ee (wipeE ρ vs) (items.drop i)).map (accD ++ ·) = some res,
        ⟨items.length, G1, [], [], by omega, Step.new' s1.gh hD0, upd_same, s1.gh.free hD0, .nil, Nat.le_refl _, by rw [List.drop_zero, e2]; rfl⟩, fun i mm Hc hW => ?_⟩
      obtain ⟨Gc, accV, accD, hi, st, hD, hG, ra, hal, hr⟩ := hW
      by_cases hlt : i < items.length
      · have hg : items[i]? = some items[i] := List.getElem?_eq_getElem hlt
        obtain ⟨go, yl⟩ := hJ.go Hc Gc i _ st.same st.gg st.gh hg
        have hdrop : items.drop i = items[i] :: items.drop (i + 1) := List.drop_eq_getElem_cons hlt
        rw [hdrop] at hr
        refine .inr ⟨go, fun Hn => ∃ Gn accV accD, Step K H1 G1 Hn Gn ∧ Hn D0 = some (.lst accV) ∧ Gn D0 = none ∧ RpAll K Gn accV accD ∧ accD.length ≤ i + 1 ∧ (compL bb cc ee (wipeE ρ vs) (items.drop (i + 1))).map (accD ++ ·) = some res, fun Hn ⟨Gn, av, ad, h1, h2, h3, h4, h5, h6⟩ => ⟨mm - 1, by omega, Gn, av, ad, by omega, h1, h2, h3, h4, h5, h6⟩, fun x Hy hy => ?_⟩
        obtain ⟨Gy, sy, ry⟩ := yl x Hy hy
        have sty := st.trans sy
        have oky : EnvOk K H0 G0 Hy Gy (wipe σ vs) (wipeE ρ vs) := (ok1.step sty).wipe vs
        have hr' : ((bb items[i] (wipeE ρ vs)).bind fun ρ1 => (cc ρ1).bind fun okb => if okb = true then (ee ρ1).bind fun y => (compL bb cc ee (wipeE ρ vs) (items.drop (i + 1))).bind fun ys => some (y :: ys) else compL bb cc ee (wipeE ρ vs) (items.drop (i + 1))).map (accD ++ ·) = some res := hr
        cases eb : bb items[i] (wipeE ρ vs) with
        | none => rw [eb] at hr'; cases hr'
        | some ρ1 =>
          rw [eb] at hr'
          simp only [Option.bind_some] at hr'
          refine ⟨H0, G0, Gy, _, _, ρ1, oky, ry, eb, fun σ2 ok2 on2 => ⟨?_, ?_⟩⟩
          · rw [on2 vs hts, wipe_wipe]
          · cases ec : cc ρ1 with
            | none => rw [ec] at hr'; cases hr'
            | some bt =>
              rw [ec] at hr'
              simp only [Option.bind_some] at hr'
              refine ⟨H0, G0, Gy, ρ1, bt, ok2, ec, fun H3 G3 s3 => ?_⟩
              have hDy : Hy D0 = some (.lst accV) := sy.same.lst hD
              have hGy : Gy D0 = none := by rw [sy.old D0 (some_ne hD)]; exact hG
              have hD3 : H3 D0 = some (.lst accV) := s3.same.lst hDy
              have hG3 : G3 D0 = none := by rw [s3.old D0 (some_ne hDy)]; exact hGy
              have st3 := sty.trans s3
              cases bt with
              | false =>
                refine iteF ?_
                simp only [Bool.false_eq_true, if_false] at hr'
                exact ⟨G3, accV, accD, st3, hD3, hG3, ra.mono (sy.gg.trans s3.gg), by omega, hr'⟩
              | true =>
                refine iteT ?_
                simp only [if_true] at hr'
                cases ee1 : ee ρ1 with
                | none => rw [ee1] at hr'; cases hr'
                | some y =>
                  rw [ee1] at hr'
                  simp only [Option.bind_some] at hr'
                  refine ⟨H0, G0, G3, ρ1, y, ok2.step s3, ee1, fun v H4 G4 s4 r4 => ?_⟩
                  have hD4 : H4 D0 = some (.lst accV) := s4.same.lst hD3
                  have hG4 : G4 D0 = none := by rw [s4.old D0 (some_ne hD3)]; exact hG3
                  have ra4 : RpAll K G4 accV accD := ra.mono ((sy.gg.trans s3.gg).trans s4.gg)
                  have r4' : Rp K G4 v y := r4
                  have hlen := hJ.len
                  refine ⟨accV, hD4, by rw [ra4.length]; omega, G4, accV ++ [v], accD ++ [y], ?_, upd_same, hG4, ra4.append (.cons r4' .nil), by rw [List.length_append]; simp; omega, ?_⟩
                  · have st4 := st3.trans s4
                    refine ⟨st4.same.ownL hD0 hD4, st4.gg, fun b o hb => ?_, st4.old⟩
                    · have nb : b ≠ D0 := fun z => by rw [z, hG4] at hb; cases hb
                      rw [upd_ne nb]
                      exact st4.gh b o hb
                  · cases ec2 : compL bb cc ee (wipeE ρ vs) (items.drop (i + 1)) with
                    | none => rw [ec2] at hr'; cases hr'
                    | some ys =>
                      rw [ec2] at hr'
                      simp only [Option.bind_some, Option.map_some, Option.some.injEq] at hr' ⊢
                      rw [List.append_assoc]
                      exact hr'
      · have hge : items.length ≤ i := by omega
        refine .inl ⟨hJ.stop Hc Gc i st.same st.gg st.gh (by omega), ?_⟩
        rw [List.drop_of_length_le hge] at hr
        simp only [compL, Option.map_some, List.append_nil, Option.some.injEq] at hr
        subst hr
        exact q _ _ _ (s1.trans st) ⟨D0, accV, rfl, s1.same.free hD0, hD, hG, ra⟩
end
end PF
namespace PF
open PySem PySem.Spec PyProof.Rows L2 RZ
section
variable {X : Cx} {tg a b c e : Expr} {es : List Expr} {fa fb fc f : Den} {fs : List Den} {pos p : Pos} {m : Md}
theorem e_comp {pr : Bool} {elt iter : Expr} {ifs : List Expr} {scope : Scope} {own : List (Str × Nat)} {it : Env → Option (List D)} {ts : List Nat} {bb : D → Env → Option Env} {cc : Env → Option Bool} {ee : Den} (hc : X.calm = true) (hN : X.N.Nodup) (hi : PI X tg iter (tI pr X.K .bw it)) (ok : BlkOk X.N X.env.scope scope own) (hts : ∀ t ∈ ts, t ∈ own.map (·.2))
    (hg : ∀ (s : Shared) (H : Hp) (C : Addr) (cl : List (Str × Addr)) (fp : List Addr), PG (X.blk s H scope (compEnvC scope cl C X.env) fp) tg (tGo pr X.K ts bb)) (ht : ∀ (s : Shared) (H : Hp) (C : Addr) (cl : List (Str × Addr)) (fp : List Addr), PTs (X.blk s H scope (compEnvC scope cl C X.env) fp) ifs (tT X.K cc))
    (he : ∀ (s : Shared) (H : Hp) (C : Addr) (cl : List (Str × Addr)) (fp : List Addr), PE (X.blk s H scope (compEnvC scope cl C X.env) fp) elt (tE X.K .fz ee)) (hs : ∀ x, foldedSetIterable iter X.env x = pure x) :
    PE X (.ListComp elt [⟨tg, iter, ifs, 0⟩] scope pos) (tE X.K .ow (dComp it (own.map (·.2)) bb cc ee)) :=
  peW (pe_lc hc hN hi ok hg ht he hs) fun σ H Q h => comp_read hts h
theorem ss_nil : PSs X [] (tS X.K fun ρ => some (.next ρ)) := pssW pss_nil fun Dn σ H ⟨H0, G0, G, ρ, out, ok, hf, q⟩ => by
  cases hf
  exact q σ H G (Same.refl _) ok
def dSeq (F F' : DenS) : DenS := fun ρ => match F ρ with
  | some (.next ρ') => F' ρ'
  | r => r
theorem seq_read {K : PySem.W.Frag} {F F' : DenS} {Dn : Ends} {σ : St} {H : Hp} (h : tS K (dSeq F F') Dn σ H) : tSeq (tS K F) (tS K F') Dn σ H := by
  obtain ⟨H0, G0, G, ρ, out, ok, hf, q⟩ := h
  unfold dSeq at hf
  cases e1 : F ρ with
  | none => rw [e1] at hf; cases hf
  | some o =>
    rw [e1] at hf
    refine ⟨H0, G0, G, ρ, o, ok, e1, ?_⟩
    cases o with
    | next ρ' => exact fun σ' H' G' g ok' => ⟨H0, G0, G', ρ', out, ok', hf, q.mono g⟩
    | ret d => cases hf; exact q
    | reto d => cases hf; exact q
    | brk ρ' => cases hf; exact q
    | cont ρ' => cases hf; exact q
theorem ss_cons {st : Stmt} {rest : List Stmt} {F F' : DenS} (h1 : PS X st (tS X.K F)) (h2 : PSs X rest (tS X.K F')) : PSs X (st :: rest) (tS X.K (dSeq F F')) := pssW (pss_cons h1 h2) fun Dn σ H h => seq_read h
theorem ss_one {st : Stmt} {F : DenS} (h1 : PS X st (tS X.K F)) : PSs X [st] (tS X.K F) := pss_one h1
def fz1 (ρ : Env) (i : Nat) : Env := match ρ[i]? with
  | some (some (.own xs)) => ρ.set i (some (.val (.list xs)))
  | some (some (.dic kvs)) => ρ.set i (some (.val (dicD kvs)))
  | _ => ρ
def fzE (ρ : Env) (is : List Nat) : Env := is.foldl fz1 ρ
theorem own_ne {K : PySem.W.Frag} {H0 G0 H G : Hp} {σ : St} {ρ : Env} (e : EnvOk K H0 G0 H G σ ρ) {i j : Nat} {xs ys : List D} {a b : Addr} (hij : i ≠ j) (h1 : ρ[i]? = some (some (.own xs))) (h2 : ρ[j]? = some (some (.own ys))) (s1 : σ[i]? = some (some (.ref a))) (s2 : σ[j]? = some (some (.ref b))) : a ≠ b := fun z => by
  subst z
  exact e.sep i j xs ys hij h1 h2 (s1.trans s2.symm)
theorem dic_ne {K : PySem.W.Frag} {H0 G0 H G : Hp} {σ : St} {ρ : Env} (e : EnvOk K H0 G0 H G σ ρ) {i j : Nat} {xs ys : List (D × D)} {a b : Addr} (hij : i ≠ j) (h1 : ρ[i]? = some (some (.dic xs))) (h2 : ρ[j]? = some (some (.dic ys))) (s1 : σ[i]? = some (some (.ref a))) (s2 : σ[j]? = some (some (.ref b))) : a ≠ b := fun z => by
  subst z
  exact e.sepD i j xs ys hij h1 h2 (s1.trans s2.symm)
theorem lst_dk {H : Hp} {a b : Addr} {vs : List V} {ep : Nat} {xs : List DN.Ent} (h1 : H a = some (.lst vs)) (h2 : H b = some (DN.DK b ep xs)) : a ≠ b := fun z => by
  subst z
  rw [h1] at h2
  cases h2
theorem EnvOk.fz1 {K : PySem.W.Frag} {H0 G0 H G : Hp} {σ : St} {ρ : Env} (e : EnvOk K H0 G0 H G σ ρ) (i : Nat) : ∃ G', Same G G' ∧ EnvOk K H0 G0 H G' σ (PF.fz1 ρ i) := by
  unfold PF.fz1
  split
  · rename_i xs hi
    obtain ⟨v, h1, a, vs, rfl, h2, h3, h4, h5⟩ := e.sl i _ hi
    have gg : Same G (upd G a (.lst vs)) := same_new h4
    have hil : i < ρ.length := (List.getElem?_eq_some_iff.mp hi).1
    refine ⟨upd G a (.lst vs), gg, ⟨e.tabs, by rw [List.length_set]; exact e.len, ⟨e.st.same, e.st.gg.trans gg, fun b o hb => ?_, fun b hb => ?_⟩, fun j sv h => ?_, fun j k ys zs hjk q1 q2 => ?_, fun j k ys zs hjk q1 q2 => ?_⟩⟩
    · by_cases hba : b = a
      · subst hba
        rw [upd_same] at hb
        cases hb
        exact h2
      · rw [upd_ne hba] at hb
        exact e.gh b o hb
    · rw [upd_ne fun z => hb (by rw [z]; exact h5)]
      exact e.st.old b hb
    · rw [List.getElem?_set] at h
      by_cases hj : i = j
      · subst hj
        simp only [hil, if_true] at h
        cases h
        exact ⟨_, h1, Rp.lst upd_same (h3.mono gg)⟩
      · simp only [hj, if_false] at h
        obtain ⟨v, k1, k2⟩ := e.sl j sv h
        refine ⟨v, k1, ?_⟩
        cases sv with
        | val d => exact Rp.mono gg k2
        | own ys =>
          obtain ⟨b, us, rfl, k3, k4, k5, k6⟩ := k2
          refine ⟨b, us, rfl, k3, k4.mono gg, ?_, k6⟩
          rw [upd_ne (own_ne e (fun z => hj z.symm) h hi k1 h1)]
          exact k5
        | dic ys =>
          obtain ⟨b, ep, us, rfl, k3, k4, k5, k6⟩ := k2
          refine ⟨b, ep, us, rfl, k3, k4.mono gg, ?_, k6⟩
          rw [upd_ne (lst_dk h2 k3).symm]
          exact k5
        | look ys =>
          obtain ⟨b, us, rfl, k3, k4⟩ := k2
          exact ⟨b, us, rfl, k3, k4.mono gg⟩
    · rw [List.getElem?_set] at q1 q2
      by_cases hj : i = j
      · subst hj
        simp [hil] at q1
      · by_cases hk : i = k
        · subst hk
          simp [hil] at q2
        · simp only [hj, hk, if_false] at q1 q2
          exact e.sep j k ys zs hjk q1 q2
    · rw [List.getElem?_set] at q1 q2
      by_cases hj : i = j
      · subst hj
        simp [hil] at q1
      · by_cases hk : i = k
        · subst hk
          simp [hil] at q2
        · simp only [hj, hk, if_false] at q1 q2
          exact e.sepD j k ys zs hjk q1 q2
  · rename_i xs hi
    obtain ⟨v, h1, a, ep, vs, rfl, h2, h3, h4, h5⟩ := e.sl i _ hi
    have gg : Same G (upd G a (DN.DK a ep vs)) := same_new h4
    have hil : i < ρ.length := (List.getElem?_eq_some_iff.mp hi).1
    refine ⟨upd G a (DN.DK a ep vs), gg, ⟨e.tabs, by rw [List.length_set]; exact e.len, ⟨e.st.same, e.st.gg.trans gg, fun b o hb => ?_, fun b hb => ?_⟩, fun j sv h => ?_, fun j k ys zs hjk q1 q2 => ?_, fun j k ys zs hjk q1 q2 => ?_⟩⟩
    · by_cases hba : b = a
      · subst hba
        rw [upd_same] at hb
        cases hb
        exact h2
      · rw [upd_ne hba] at hb
        exact e.gh b o hb
    · rw [upd_ne fun z => hb (by rw [z]; exact h5)]
      exact e.st.old b hb
    · rw [List.getElem?_set] at h
      by_cases hj : i = j
      · subst hj
        simp only [hil, if_true] at h
        cases h
        exact ⟨_, h1, Rp.dic upd_same (h3.mono gg)⟩
      · simp only [hj, if_false] at h
        obtain ⟨v, k1, k2⟩ := e.sl j sv h
        refine ⟨v, k1, ?_⟩
        cases sv with
        | val d => exact Rp.mono gg k2
        | own ys =>
          obtain ⟨b, us, rfl, k3, k4, k5, k6⟩ := k2
          refine ⟨b, us, rfl, k3, k4.mono gg, ?_, k6⟩
          rw [upd_ne (lst_dk k3 h2)]
          exact k5
        | dic ys =>
          obtain ⟨b, ep', us, rfl, k3, k4, k5, k6⟩ := k2
          refine ⟨b, ep', us, rfl, k3, k4.mono gg, ?_, k6⟩
          rw [upd_ne (dic_ne e (fun z => hj z.symm) h hi k1 h1)]
          exact k5
        | look ys =>
          obtain ⟨b, us, rfl, k3, k4⟩ := k2
          exact ⟨b, us, rfl, k3, k4.mono gg⟩
    · rw [List.getElem?_set] at q1 q2
      by_cases hj : i = j
      · subst hj
        simp [hil] at q1
      · by_cases hk : i = k
        · subst hk
          simp [hil] at q2
        · simp only [hj, hk, if_false] at q1 q2
          exact e.sep j k ys zs hjk q1 q2
    · rw [List.getElem?_set] at q1 q2
      by_cases hj : i = j
      · subst hj
        simp [hil] at q1
      · by_cases hk : i = k
        · subst hk
          simp [hil] at q2
        · simp only [hj, hk, if_false] at q1 q2
          exact e.sepD j k ys zs hjk q1 q2
  · exact ⟨G, Same.refl _, e⟩
theorem EnvOk.fzE {K : PySem.W.Frag} {H0 G0 H : Hp} {σ : St} : ∀ (is : List Nat) {G : Hp} {ρ : Env}, EnvOk K H0 G0 H G σ ρ → ∃ G', Same G G' ∧ EnvOk K H0 G0 H G' σ (PF.fzE ρ is)
  | [], G, ρ, e => ⟨G, Same.refl _, e⟩
  | i :: is, G, ρ, e => by
    obtain ⟨G1, g1, e1⟩ := e.fz1 i
    obtain ⟨G2, g2, e2⟩ := EnvOk.fzE is e1
    exact ⟨G2, g1.trans g2, e2⟩
theorem s_fz {st : Stmt} {F : DenS} (is : List Nat) (h : PS X st (tS X.K F)) : PS X st (tS X.K fun ρ => F (fzE ρ is)) := psW h fun Dn σ H ⟨H0, G0, G, ρ, out, ok, hf, q⟩ => by
  obtain ⟨G', g, ok'⟩ := EnvOk.fzE is ok
  exact ⟨H0, G0, G', _, out, ok', hf, q.mono g⟩
def dSet (i : Nat) (f : Den) : DenS := fun ρ => (f ρ).map fun d => .next (ρ.set i (some (.val d)))
def dOwn (i : Nat) (f : Den) : DenS := fun ρ => match f ρ with
  | some (.list xs) => some (.next (ρ.set i (some (.own xs))))
  | _ => none
theorem set_read {K : PySem.W.Frag} {i : Nat} {Dn : Ends} {σ : St} {H : Hp} (h : tS K (dSet i f) Dn σ H) : tAsg (tE K .fz f) (gName i) Dn σ H := by
  obtain ⟨H0, G0, G, ρ, out, ok, hf, q⟩ := h
  unfold dSet at hf
  cases e1 : f ρ with
  | none => rw [e1] at hf; cases hf
  | some d =>
    rw [e1] at hf
    cases hf
    exact ⟨H0, G0, G, ρ, d, ok, e1, fun v H' G' s r => q _ _ _ s.gg ((ok.step s).set_val r)⟩
theorem own_read {K : PySem.W.Frag} {i : Nat} {Dn : Ends} {σ : St} {H : Hp} (h : tS K (dOwn i f) Dn σ H) : tAsg (tE K .ow f) (gName i) Dn σ H := by
  obtain ⟨H0, G0, G, ρ, out, ok, hf, q⟩ := h
  unfold dOwn at hf
  split at hf
  · rename_i xs e1
    cases hf
    refine ⟨H0, G0, G, ρ, _, ok, e1, fun v H' G' s r => ?_⟩
    obtain ⟨a, vs, rfl, n, h1, h2, h3⟩ := r
    exact q _ _ _ s.gg (ok.set_own s n h1 h2 h3)
  · cases hf
def isComp : Expr → Bool
  | .ListComp .. => true
  | .SetComp .. => true
  | .DictComp .. => true
  | _ => false
theorem swaps_no {t : Expr} {l : Nat} {env : PySem.Env} (h : isComp e = false) : swapsWith e (some t) l env = pure false := by
  cases e <;> first | rfl | (exact absurd h (by simp [isComp]))
theorem swaps_no0 {l : Nat} {env : PySem.Env} (h : isComp e = false) : swapsWith e none l env = pure false := by
  cases e <;> first | rfl | (exact absurd h (by simp [isComp]))
variable {i : Nat} {x : Str} {p' : Pos}
theorem s_set (hN : X.N.Nodup) (hi : X.N[i]? = some x) (hx : Loc X.env.scope x) (hf : X.fn x = true ∨ X.env.scope.names.lookup x = some .local) (hs : swapsWith e (some (.Name x p')) pos.line X.env = pure false) (he : PE X e (tE X.K .fz f)) : PS X (.Assign [.Name x p'] e pos) (tS X.K (dSet i f)) :=
  psW (ps_set hN hi hx he hs hf) fun Dn σ H h => set_read h
theorem s_own (hN : X.N.Nodup) (hi : X.N[i]? = some x) (hx : Loc X.env.scope x) (hf : X.fn x = true ∨ X.env.scope.names.lookup x = some .local) (hs : swapsWith e (some (.Name x p')) pos.line X.env = pure false) (he : PE X e (tE X.K .ow f)) : PS X (.Assign [.Name x p'] e pos) (tS X.K (dOwn i f)) :=
  psW (ps_set hN hi hx he hs hf) fun Dn σ H h => own_read h
theorem s_lc {pr : Bool} {elt iter : Expr} {ifs : List Expr} {scope : Scope} {own : List (Str × Nat)} {it : Env → Option (List D)} {ts : List Nat} {bb : D → Env → Option Env} {cc : Env → Option Bool} {ee : Den} {G : DenS} (hc : X.calm = true) (hN : X.N.Nodup) (hy : X.N[i]? = some x) (hyl : X.env.scope.names.lookup x = some .local)
    (hsw : swapsWith (.ListComp elt [⟨tg, iter, ifs, 0⟩] scope pos) (some (.Name x p')) p.line X.env = pure true) (hi : PI X tg iter (tI pr X.K .bw it)) (ok : BlkOk X.N X.env.scope scope own) (hts : ∀ t ∈ ts, t ∈ own.map (·.2))
    (hg : ∀ (s : Shared) (H : Hp) (C : Addr) (cl : List (Str × Addr)) (fp : List Addr), PG (X.blk s H scope (compEnvC scope cl C X.env) fp) tg (tGo pr X.K ts bb)) (ht : ∀ (s : Shared) (H : Hp) (C : Addr) (cl : List (Str × Addr)) (fp : List Addr), PTs (X.blk s H scope (compEnvC scope cl C X.env) fp) ifs (tT X.K cc))
    (he : ∀ (s : Shared) (H : Hp) (C : Addr) (cl : List (Str × Addr)) (fp : List Addr), PE (X.blk s H scope (compEnvC scope cl C X.env) fp) elt (tE X.K .fz ee)) (hs : ∀ x, foldedSetIterable iter X.env x = pure x)
    (w : ∀ Dn σ H, tS X.K G Dn σ H → tAsg (tE X.K .ow (dComp it (own.map (·.2)) bb cc ee)) (gName i) Dn σ H) :
    PS X (.Assign [.Name x p'] (.ListComp elt [⟨tg, iter, ifs, 0⟩] scope pos) p) (tS X.K G) :=
  psW (ps_setLc hc hN hy hyl hsw hi ok hg ht he hs) fun Dn σ H h => comp_read hts (w Dn σ H h)
theorem fz_asg {K : PySem.W.Frag} {g : TG} {Dn : Ends} {σ : St} {H : Hp} (h : tAsg (tE K .fz f) g Dn σ H) : tAsg (tE K .ow f) g Dn σ H := by
  obtain ⟨H0, G0, G, ρ, d, ok, hf, q⟩ := h
  refine ⟨H0, G0, G, ρ, d, ok, hf, fun v H' G' s r => ?_⟩
  cases d with
  | list xs =>
    obtain ⟨a, vs, rfl, n, hv, g, rr⟩ := r
    exact q _ _ _ (s.shut n g hv) (Rp.lst upd_same (rr.mono (same_new g)))
  | _ => exact q _ _ _ s r
def dUnp (b : D → Env → Option Env) (f : Den) : DenS := fun ρ => (f ρ).bind fun d => (b d ρ).map .next
theorem s_unp {pr : Bool} {ts : List Nat} {bb : D → Env → Option Env} (h1 : isStar tg = false) (hs : swapsWithSole [tg] e pos.line X.env = pure false) (hw : swappedStores [tg] e X.env = pure none) (hg : PG X tg (tGo pr X.K ts bb)) (he : PE X e (tE X.K .fz f)) : PS X (.Assign [tg] e pos) (tS X.K (dUnp bb f)) :=
  psW (ps_asg he hg hs hw (by rw [assign_star h1]; rfl)) fun Dn σ H ⟨H0, G0, G, ρ, out, ok, hf, q⟩ => by
    unfold dUnp at hf
    cases e1 : f ρ with
    | none => rw [e1] at hf; cases hf
    | some d =>
      rw [e1] at hf
      cases e2 : bb d ρ with
      | none => simp only [Option.bind_some, e2, Option.map_none] at hf; cases hf
      | some ρ' =>
        simp only [Option.bind_some, e2, Option.map_some] at hf
        cases hf
        exact ⟨H0, G0, G, ρ, d, ok, e1, fun v H' G' s r => ⟨H0, G0, G', ρ, d, ρ', ok.step s, .inl r, e2, fun σ' ok' _ => q σ' H' G' s.gg ok'⟩⟩
def dRet (f : Den) : DenS := fun ρ => (f ρ).map .ret
theorem s_ret (he : PE X e (tE X.K .fz f)) : PS X (.Return (some e) pos) (tS X.K (dRet f)) :=
  psW (ps_ret he) fun Dn σ H ⟨H0, G0, G, ρ, out, ok, hf, q⟩ => by
    unfold dRet at hf
    cases e1 : f ρ with
    | none => rw [e1] at hf; cases hf
    | some d =>
      rw [e1] at hf
      cases hf
      exact ⟨H0, G0, G, ρ, d, ok, e1, fun v H' G' s r => q v H' G' (ok.st.trans s) r⟩
def tR (K : PySem.W.Frag) (f : Den) : TE := fun σ H Q => ∃ H0 G0 G ρ d, EnvOk K H0 G0 H G σ ρ ∧ f ρ = some d ∧ ∀ v H' G', Step K H0 G0 H' G' → Res K H0 H' G' v d .ow → Q v H'
theorem res_up {K : PySem.W.Frag} {H0 G0 H G H' G' : Hp} {v : V} {d : D} (s : Step K H0 G0 H G) (r : Res K H H' G' v d .ow) : Res K H0 H' G' v d .ow := by
  cases d with
  | list xs =>
    obtain ⟨a, vs, h1, h2, h3⟩ := r
    exact ⟨a, vs, h1, s.same.free h2, h3⟩
  | _ => exact r
theorem r_ow (h : PE X e (tE X.K .ow f)) : PE X e (tR X.K f) := peW h fun σ H Q ⟨H0, G0, G, ρ, d, ok, hf, q⟩ => ⟨H0, G0, G, ρ, d, ok, hf, fun v H' G' s r => q v H' G' (ok.st.trans s) (res_up ok.st r)⟩
theorem r_fz (is : List Nat) (h : PE X e (tR X.K f)) : PE X e (tR X.K fun ρ => f (fzE ρ is)) := peW h fun σ H Q ⟨H0, G0, G, ρ, d, ok, hf, q⟩ => by
  obtain ⟨G', g, ok'⟩ := EnvOk.fzE is ok
  exact ⟨H0, G0, G', _, d, ok', hf, q⟩
def noL : D → Bool
  | .list _ => false
  | _ => true
def dRO (i : Nat) : Den := fun ρ => match ρ[i]? with
  | some (some (.own xs)) => some (.list xs)
  | some (some (.val d)) => if noL d = true then some d else none
  | _ => none
theorem r_name {i : Nat} {x : Str} (hN : X.N[i]? = some x) (hv : Vis X.env.scope x) (hd : (x == ("__debug__" : Str)) = false) (hcd : (x == ("__classdict__" : Str)) = false) : PE X (.Name x pos) (tR X.K (dRO i)) :=
  peW (pe_var hN hv hd hcd) fun σ H Q ⟨H0, G0, G, ρ, d, ok, hf, q⟩ => by
    unfold dRO at hf
    split at hf
    · rename_i xs e1
      cases hf
      obtain ⟨v, h1, a, vs, rfl, h2, h3, h4, h5⟩ := ok.sl i _ e1
      exact ⟨_, h1, q _ _ _ ok.st ⟨a, vs, rfl, h5, h2, h4, h3⟩⟩
    · rename_i d' e1
      split at hf
      · rename_i hl
        cases hf
        obtain ⟨v, h1, h2⟩ := ok.sl i _ e1
        refine ⟨_, h1, q _ _ _ ok.st ?_⟩
        cases d with
        | list xs => cases hl
        | _ => exact h2
      · cases hf
    · cases hf
def dRetO (f : Den) : DenS := fun ρ => (f ρ).map .reto
theorem s_retO (he : PE X e (tR X.K f)) : PS X (.Return (some e) pos) (tS X.K (dRetO f)) :=
  psW (ps_ret he) fun Dn σ H ⟨H0, G0, G, ρ, out, ok, hf, q⟩ => by
    unfold dRetO at hf
    cases e1 : f ρ with
    | none => rw [e1] at hf; cases hf
    | some d =>
      rw [e1] at hf
      cases hf
      exact ⟨H0, G0, G, ρ, d, ok, e1, fun v H' G' s r => q v H' G' s r⟩
theorem s_pass : PS X (.Pass pos) (tS X.K fun ρ => some (.next ρ)) := psW ps_pass fun Dn σ H ⟨H0, G0, G, ρ, out, ok, hf, q⟩ => by
  cases hf
  exact q σ H G (Same.refl _) ok
theorem s_break : PS X (.Break pos) (tS X.K fun ρ => some (.brk ρ)) := psW ps_break fun Dn σ H ⟨H0, G0, G, ρ, out, ok, hf, q⟩ => by
  cases hf
  exact q σ H G (Same.refl _) ok
theorem s_continue : PS X (.Continue pos) (tS X.K fun ρ => some (.cont ρ)) := psW ps_continue fun Dn σ H ⟨H0, G0, G, ρ, out, ok, hf, q⟩ => by
  cases hf
  exact q σ H G (Same.refl _) ok
def dIfS (c : Den) (F F' : DenS) : DenS := fun ρ => match c ρ with
  | some (.bool true) => F ρ
  | some (.bool false) => F' ρ
  | _ => none
theorem s_if {A B : List Stmt} {F F' : DenS} (hc : PT X c (tT X.K (dT fc))) (ha : PSs X A (tS X.K F)) (hb : PSs X B (tS X.K F')) : PS X (.If c A B pos) (tS X.K (dIfS fc F F')) :=
  psW (ps_if hc ha hb) fun Dn σ H ⟨H0, G0, G, ρ, out, ok, hf, q⟩ => by
    unfold dIfS at hf
    split at hf
    · rename_i e1
      refine ⟨H0, G0, G, ρ, true, ok, by unfold dT; rw [e1], fun H' G' s => ?_⟩
      refine iteT ?_
      exact ⟨H0, G0, G', ρ, out, ok.step s, hf, q.mono s.gg⟩
    · rename_i e1
      refine ⟨H0, G0, G, ρ, false, ok, by unfold dT; rw [e1], fun H' G' s => ?_⟩
      refine iteF ?_
      exact ⟨H0, G0, G', ρ, out, ok.step s, hf, q.mono s.gg⟩
    · cases hf
def forL (b : D → Env → Option Env) (F : DenS) : List D → Env → Option Out
  | [], ρ => some (.next ρ)
  | x :: xs, ρ => (b x ρ).bind fun ρ1 => match F ρ1 with
    | some (.next ρ2) => forL b F xs ρ2
    | some (.cont ρ2) => forL b F xs ρ2
    | some (.brk ρ2) => some (.next ρ2)
    | some (.ret d) => some (.ret d)
    | some (.reto d) => some (.reto d)
    | none => none
def dFor (it : Env → Option (List D)) (b : D → Env → Option Env) (F : DenS) : DenS := fun ρ => (it ρ).bind fun items => forL b F items ρ
theorem s_for {pr : Bool} {iter : Expr} {body : List Stmt} {it : Env → Option (List D)} {ts : List Nat} {bb : D → Env → Option Env} {F : DenS} (hp : X.xe = fun _ _ => False) (hc : X.calm = true) (hi : PI X tg iter (tI pr X.K .fz it)) (hg : PG X tg (tGo pr X.K ts bb)) (hb : PSs X body (tS X.K F)) (hs : ∀ x, foldedSetIterable iter X.env x = pure x) :
    PS X (.For tg iter body [] pos) (tS X.K (dFor it bb F)) :=
  psW (ps_for (by rw [hp]; exact PassesOwn.never) hc hi hg hb hs) fun Dn σ H ⟨H0, G0, G, ρ, out, ok, hf, q⟩ => by
    unfold dFor at hf
    cases e1 : it ρ with
    | none => rw [e1] at hf; cases hf
    | some items =>
      rw [e1] at hf
      simp only [Option.bind_some] at hf
      refine ⟨H0, G0, G, ρ, items, ok, e1, fun J H1 G1 s1 hJ => ?_⟩
      refine ⟨fun i mm σc Hc => ∃ Gc ρc, i + mm = items.length ∧ Same G1 Gc ∧ EnvOk X.K H0 G0 Hc Gc σc ρc ∧ forL bb F (items.drop i) ρc = some out, ⟨items.length, G1, ρ, by omega, Same.refl _, ok.step s1, by rw [List.drop_zero]; exact hf⟩, fun i mm σc Hc hW => ?_⟩
      obtain ⟨Gc, ρc, hi, gg, okc, hr⟩ := hW
      by_cases hlt : i < items.length
      · have hgi : items[i]? = some items[i] := List.getElem?_eq_getElem hlt
        obtain ⟨go, yl⟩ := hJ.go Hc Gc i _ True.intro gg okc.gh hgi
        rw [List.drop_eq_getElem_cons hlt] at hr
        have hr' : (bb items[i] ρc).bind (fun ρ1 => match F ρ1 with
          | some (.next ρ2) => forL bb F (items.drop (i + 1)) ρ2
          | some (.cont ρ2) => forL bb F (items.drop (i + 1)) ρ2
          | some (.brk ρ2) => some (.next ρ2)
          | some (.ret d) => some (.ret d)
          | some (.reto d) => some (.reto d)
          | none => none) = some out := hr
        cases e2 : bb items[i] ρc with
        | none => rw [e2] at hr'; cases hr'
        | some ρ1 =>
          rw [e2] at hr'
          simp only [Option.bind_some] at hr'
          refine .inr ⟨go, fun σn Hn => ∃ Gn ρn, Same G1 Gn ∧ EnvOk X.K H0 G0 Hn Gn σn ρn ∧ forL bb F (items.drop (i + 1)) ρn = some out, fun σn Hn ⟨Gn, ρn, g1, g2, g3⟩ => ⟨mm - 1, by omega, Gn, ρn, by omega, g1, g2, g3⟩, fun v Hy hy => ?_⟩
          obtain ⟨Gy, sy, ry⟩ := yl v Hy hy
          refine ⟨H0, G0, Gy, ρc, _, ρ1, okc.step sy, ry, e2, fun σ2 ok2 _ => ?_⟩
          cases e3 : F ρ1 with
          | none => rw [e3] at hr'; cases hr'
          | some o =>
            rw [e3] at hr'
            refine ⟨H0, G0, Gy, ρ1, o, ok2, e3, ?_⟩
            have gy : Same G1 Gy := gg.trans sy.gg
            cases o with
            | next ρ2 => exact fun σ' H' G' g ok' => ⟨G', ρ2, gy.trans g, ok', hr'⟩
            | cont ρ2 => exact fun σ' H' G' g ok' => ⟨G', ρ2, gy.trans g, ok', hr'⟩
            | brk ρ2 =>
              cases hr'
              exact fun σ' H' G' g ok' => q σ' H' G' ((s1.gg.trans gy).trans g) ok'
            | ret d =>
              cases hr'
              exact q
            | reto d =>
              cases hr'
              exact q
      · have hge : items.length ≤ i := by omega
        rw [List.drop_of_length_le hge] at hr
        cases hr
        exact .inl ⟨hJ.stop Hc Gc i True.intro gg okc.gh (by omega), q σc Hc Gc (s1.gg.trans gg) okc⟩
end
end PF
namespace PF
open PySem PySem.Spec PyProof.Rows L2 RZ
section
variable {X : Cx} {tg a b c e : Expr} {es : List Expr} {fa fb fc f : Den} {fs : List Den} {pos p p' apos : Pos} {m : Md} {i : Nat} {x : Str}
theorem sole_no {t e : Expr} {l : Nat} {env : PySem.Env} (h : isComp e = false) : swapsWithSole [t] e l env = pure false := by
  have q : swapsWith e (some t) l env = pure false := swaps_no h
  exact q
def whileL (c : Den) (F : DenS) : Nat → Env → Option Out
  | 0, _ => none
  | n + 1, ρ => match c ρ with
    | some (.bool true) => match F ρ with
      | some (.next ρ2) => whileL c F n ρ2
      | some (.cont ρ2) => whileL c F n ρ2
      | some (.brk ρ2) => some (.next ρ2)
      | some (.ret d) => some (.ret d)
      | some (.reto d) => some (.reto d)
      | none => none
    | some (.bool false) => some (.next ρ)
    | _ => none
theorem s_while {body : List Stmt} {F : DenS} (n : Nat) (hp : X.xe = fun _ _ => False) (hc : PT X c (tT X.K (dT fc))) (hb : PSs X body (tS X.K F)) : PS X (.While c body [] pos) (tS X.K (whileL fc F n)) :=
  psW (ps_while (by rw [hp]; exact PassesOwn.never) hc hb) fun Dn σ H ⟨H0, G0, G, ρ, out, ok, hf, q⟩ => by
    refine ⟨fun mm σc Hc => ∃ Gc ρc, Same G Gc ∧ EnvOk X.K H0 G0 Hc Gc σc ρc ∧ whileL fc F mm ρc = some out, ⟨n, G, ρ, Same.refl _, ok, hf⟩, fun mm σc Hc hW => ?_⟩
    obtain ⟨Gc, ρc, gg, okc, hr⟩ := hW
    cases mm with
    | zero => cases hr
    | succ k =>
      have hr' : (match fc ρc with
        | some (.bool true) => match F ρc with
          | some (.next ρ2) => whileL fc F k ρ2
          | some (.cont ρ2) => whileL fc F k ρ2
          | some (.brk ρ2) => some (.next ρ2)
          | some (.ret d) => some (.ret d)
          | some (.reto d) => some (.reto d)
          | none => none
        | some (.bool false) => some (.next ρc)
        | _ => none) = some out := hr
      split at hr'
      · rename_i e1
        refine ⟨H0, G0, Gc, ρc, true, okc, by unfold dT; rw [e1], fun H1 G1 s1 => ?_⟩
        refine iteT ?_
        refine ⟨fun σn Hn => ∃ Gn ρn, Same G Gn ∧ EnvOk X.K H0 G0 Hn Gn σn ρn ∧ whileL fc F k ρn = some out, fun σn Hn h => ⟨k, Nat.lt_succ_self k, h⟩, ?_⟩
        have g1 : Same G G1 := gg.trans s1.gg
        cases e2 : F ρc with
        | none => rw [e2] at hr'; cases hr'
        | some o =>
          rw [e2] at hr'
          refine ⟨H0, G0, G1, ρc, o, okc.step s1, e2, ?_⟩
          cases o with
          | next ρ2 => exact fun σ' H' G' g ok' => ⟨G', ρ2, g1.trans g, ok', hr'⟩
          | cont ρ2 => exact fun σ' H' G' g ok' => ⟨G', ρ2, g1.trans g, ok', hr'⟩
          | brk ρ2 =>
            cases hr'
            exact fun σ' H' G' g ok' => q σ' H' G' (g1.trans g) ok'
          | ret d =>
            cases hr'
            exact q
          | reto d =>
            cases hr'
            exact q
      · rename_i e1
        cases hr'
        refine ⟨H0, G0, Gc, ρc, false, okc, by unfold dT; rw [e1], fun H1 G1 s1 => ?_⟩
        refine iteF ?_
        exact q _ _ _ (gg.trans s1.gg) (okc.step s1)
      · cases hr'
theorem EnvOk.mut {K : PySem.W.Frag} {H0 G0 H G : Hp} {σ : St} {ρ : Env} {xs ys : List D} {a : Addr} {vs us : List V} (e : EnvOk K H0 G0 H G σ ρ) (hi : ρ[i]? = some (some (.own xs))) (hs : σ[i]? = some (some (.ref a))) (ha : H a = some (.lst vs)) (hg : G a = none) (h0 : H0 a = none) (r : RpAll K G us ys) :
    EnvOk K H0 G0 (upd H a (.lst us)) G σ (ρ.set i (some (.own ys))) := by
  have hil : i < ρ.length := (List.getElem?_eq_some_iff.mp hi).1
  refine ⟨e.tabs, by rw [List.length_set]; exact e.len, ⟨e.st.same.ownL h0 ha, e.st.gg, fun b o hb => ?_, e.st.old⟩, fun j sv h => ?_, fun j k ws zs hjk q1 q2 => ?_, fun j k ws zs hjk q1 q2 => ?_⟩
  · rw [upd_ne (ne_of_none hb hg)]
    exact e.gh b o hb
  · rw [List.getElem?_set] at h
    by_cases hj : i = j
    · subst hj
      simp only [hil, if_true] at h
      cases h
      exact ⟨_, hs, a, us, rfl, upd_same, r, hg, h0⟩
    · simp only [hj, if_false] at h
      obtain ⟨v, k1, k2⟩ := e.sl j sv h
      refine ⟨v, k1, ?_⟩
      cases sv with
      | val d => exact k2
      | own ws =>
        obtain ⟨b, us', rfl, k3, k4, k5, k6⟩ := k2
        refine ⟨b, us', rfl, ?_, k4, k5, k6⟩
        rw [upd_ne (own_ne e (fun z => hj z.symm) h hi k1 hs)]
        exact k3
      | dic ws =>
        obtain ⟨b, ep, us', rfl, k3, k4, k5, k6⟩ := k2
        refine ⟨b, ep, us', rfl, ?_, k4, k5, k6⟩
        rw [upd_ne (lst_dk ha k3).symm]
        exact k3
      | look ws => exact k2
  · rw [List.getElem?_set] at q1 q2
    have get : ∀ {l : Nat} {ts : List D}, (if i = l then if i < ρ.length then some (some (SV.own ys)) else none else ρ[l]?) = some (some (.own ts)) → ∃ ts', ρ[l]? = some (some (.own ts')) := fun {l ts} q => by
      by_cases hl : i = l
      · subst hl; exact ⟨xs, hi⟩
      · simp only [hl, if_false] at q; exact ⟨ts, q⟩
    obtain ⟨ws', w1⟩ := get q1
    obtain ⟨zs', w2⟩ := get q2
    exact e.sep j k ws' zs' hjk w1 w2
  · rw [List.getElem?_set] at q1 q2
    by_cases hj : i = j
    · subst hj
      simp [hil] at q1
    · by_cases hk : i = k
      · subst hk
        simp [hil] at q2
      · simp only [hj, hk, if_false] at q1 q2
        exact e.sepD j k ws zs hjk q1 q2
theorem own_get {K : PySem.W.Frag} {H0 G0 H G : Hp} {σ : St} {ρ : Env} {xs : List D} (e : EnvOk K H0 G0 H G σ ρ) (hi : ρ[i]? = some (some (.own xs))) : ∃ a vs, σ[i]? = some (some (.ref a)) ∧ H a = some (.lst vs) ∧ RpAll K G vs xs ∧ G a = none ∧ H0 a = none := by
  obtain ⟨v, h1, a, vs, rfl, h2, h3, h4, h5⟩ := e.sl i _ hi
  exact ⟨a, vs, h1, h2, h3, h4, h5⟩
theorem few1 (hs : isStar e = false) : ((backTo pos (starEach [e] X.env)).all (fun x => !x.1) && (backToKw pos (keywordEach [] X.env)).all (fun x => x.1.isSome)
      && decide ([e].length + ([] : List Keyword).length + (if ([] : List Keyword).isEmpty then 0 else 1) < 30)) = true := by
  rw [star_ok hs]
  rfl
def dAppend (i : Nat) (f : Den) : DenS := fun ρ => match ρ[i]? with
  | some (some (.own xs)) => (f ρ).bind fun d => if xs.length < sizeLine then some (.next (ρ.set i (some (.own (xs ++ [d]))))) else none
  | _ => none
theorem s_append (hN : X.N[i]? = some x) (hv : Vis X.env.scope x) (hd : (x == ("__debug__" : Str)) = false) (hcd : (x == ("__classdict__" : Str)) = false) (hl : (apos.endLine == pos.line) = true) (hs : isStar e = false) (he : PE X e (tE X.K .fz f)) :
    PS X (.Expr (.Call (.Attribute (.Name x p) "append" apos) [e] [] pos) p') (tS X.K (dAppend i f)) :=
  psW (ps_expr (pe_bm PySem.F.plainAttrs_list PySem.F.slot_list_append PySem.F.type_list_append mt_append (pe_var hN hv hd hcd) (pa_cons he pa_nil (st1 hs)) rfl (few1 hs) hl (st1 hs) rfl) rfl) fun Dn σ H ⟨H0, G0, G, ρ, out, ok, hf, q⟩ => by
    unfold dAppend at hf
    split at hf
    · rename_i xs e1
      obtain ⟨a, vs, h1, h2, h3, h4, h5⟩ := own_get ok e1
      cases e2 : f ρ with
      | none => rw [e2] at hf; cases hf
      | some d =>
        rw [e2] at hf
        simp only [Option.bind_some] at hf
        split at hf
        · rename_i hlt
          cases hf
          refine ⟨_, h1, .inl ⟨rfl, _, .inl (.inl h2)⟩, H0, G0, G, ρ, d, ok, e2, fun v H1 G1 s r => ?_⟩
          have k2 := s.same.lst h2
          have k4 : G1 a = none := by rw [s.old a (some_ne h2)]; exact h4
          refine ⟨a, vs, v, rfl, rfl, k2, by rw [h3.length]; exact hlt, ?_⟩
          exact q _ _ _ s.gg ((ok.step s).mut e1 h1 k2 k4 h5 ((h3.mono s.gg).append (.cons r .nil)))
        · cases hf
    · cases hf
def dExtend (i : Nat) (f : Den) : DenS := fun ρ => match ρ[i]? with
  | some (some (.own xs)) => match f ρ with
    | some (.list ys) => if xs.length + ys.length ≤ sizeLine then some (.next (ρ.set i (some (.own (xs ++ ys))))) else none
    | _ => none
  | _ => none
theorem s_extend (hN : X.N[i]? = some x) (hv : Vis X.env.scope x) (hd : (x == ("__debug__" : Str)) = false) (hcd : (x == ("__classdict__" : Str)) = false) (hl : (apos.endLine == pos.line) = true) (hs : isStar e = false) (he : PE X e (tE X.K .ow f)) :
    PS X (.Expr (.Call (.Attribute (.Name x p) "extend" apos) [e] [] pos) p') (tS X.K (dExtend i f)) :=
  psW (ps_expr (pe_bm PySem.F.plainAttrs_list PySem.F.slot_list_extend PySem.F.type_list_extend mt_extend (pe_var hN hv hd hcd) (pa_cons he pa_nil (st1 hs)) rfl (few1 hs) hl (st1 hs) rfl) rfl) fun Dn σ H ⟨H0, G0, G, ρ, out, ok, hf, q⟩ => by
    unfold dExtend at hf
    split at hf
    · rename_i xs e1
      obtain ⟨a, vs, h1, h2, h3, h4, h5⟩ := own_get ok e1
      split at hf
      · rename_i ys e2
        split at hf
        · rename_i hlt
          cases hf
          refine ⟨_, h1, .inl ⟨rfl, _, .inl (.inl h2)⟩, H0, G0, G, ρ, _, ok, e2, fun v H1 G1 s r => ?_⟩
          obtain ⟨b, us, rfl, n, hb, gb, rr⟩ := r
          have k2 := s.same.lst h2
          have k4 : G1 a = none := by rw [s.old a (some_ne h2)]; exact h4
          have k3 := h3.mono s.gg
          refine ⟨a, b, vs, us, rfl, rfl, k2, hb, by rw [k3.length, rr.length]; exact hlt, ?_⟩
          exact q _ _ _ s.gg ((ok.step s).mut e1 h1 k2 k4 h5 (k3.append rr))
        · cases hf
      · cases hf
    · cases hf
def dPop (i : Nat) (b : D → Env → Option Env) : DenS := fun ρ => match ρ[i]? with
  | some (some (.own xs)) => match xs[xs.length - 1]? with
    | some d => (b d (ρ.set i (some (.own xs.dropLast)))).map .next
    | none => none
  | _ => none
theorem s_pop {pr : Bool} {ts : List Nat} {bb : D → Env → Option Env} (hN : X.N[i]? = some x) (hv : Vis X.env.scope x) (hd : (x == ("__debug__" : Str)) = false) (hcd : (x == ("__classdict__" : Str)) = false) (hl : (apos.endLine == pos.line) = true) (h1 : isStar tg = false) (hg : PG X tg (tGo pr X.K ts bb)) (hw : swappedStores [tg] (.Call (.Attribute (.Name x p) "pop" apos) [] [] pos) X.env = pure none) :
    PS X (.Assign [tg] (.Call (.Attribute (.Name x p) "pop" apos) [] [] pos) p') (tS X.K (dPop i bb)) :=
  psW (ps_asg (pe_bm0 PySem.F.plainAttrs_list PySem.F.slot_list_pop PySem.F.type_list_pop mt_pop (pe_var hN hv hd hcd) rfl hl) hg (sole_no rfl) hw (by rw [assign_star h1]; rfl)) fun Dn σ H ⟨H0, G0, G, ρ, out, ok, hf, q⟩ => by
    unfold dPop at hf
    split at hf
    · rename_i xs e1
      obtain ⟨a, vs, h1, h2, h3, h4, h5⟩ := own_get ok e1
      split at hf
      · rename_i d e2
        cases e3 : bb d (ρ.set i (some (.own xs.dropLast))) with
        | none => rw [e3] at hf; cases hf
        | some ρ' =>
          rw [e3] at hf
          cases hf
          obtain ⟨v, k1, k2⟩ := h3.get _ e2
          refine ⟨_, h1, .inl ⟨rfl, _, .inl (.inl h2)⟩, a, vs, v, rfl, rfl, h2, by rw [h3.length]; exact k1, ?_⟩
          refine ⟨H0, G0, G, _, d, ρ', ok.mut e1 h1 h2 h4 h5 h3.dropLast, .inl k2, e3, fun σ' ok' _ => q _ _ _ (Same.refl _) ok'⟩
      · cases hf
    · cases hf
def dSetIx (i : Nat) (g f : Den) : DenS := fun ρ => match ρ[i]? with
  | some (some (.own xs)) => (f ρ).bind fun d => match g ρ with
    | some (.int k) => (ixN xs.length k).bind fun j => some (.next (ρ.set i (some (.own (xs.set j d)))))
    | _ => none
  | _ => none
theorem s_setIx {ix : Expr} {g : Den} {px : Pos} (hN : X.N[i]? = some x) (hv : Vis X.env.scope x) (hd : (x == ("__debug__" : Str)) = false) (hcd : (x == ("__classdict__" : Str)) = false) (hsl : isSlice ix = false) (hc : isComp e = false) (hg : PE X ix (tE X.K .bw g)) (he : PE X e (tE X.K .fz f)) :
    PS X (.Assign [.Subscript (.Name x p) ix apos] e pos) (tS X.K (dSetIx i g f)) := by
  have hgs : PG X (.Subscript (.Name x p) ix apos) (gSub (tVar i) (tE X.K .bw g) rSetL) := pg_sub (pe_var hN hv hd hcd) hg set_list (fun v => by
    cases ix <;> first | rfl | (exact absurd hsl (by simp [isSlice])))
  refine psW (ps_asg he hgs (sole_no hc) (by rfl) (by rfl)) fun Dn σ H ⟨H0, G0, G, ρ, out, ok, hf, q⟩ => ?_
  unfold dSetIx at hf
  split at hf
  · rename_i xs e1
    obtain ⟨a, vs, h1, h2, h3, h4, h5⟩ := own_get ok e1
    cases e2 : f ρ with
    | none => rw [e2] at hf; cases hf
    | some d =>
      rw [e2] at hf
      simp only [Option.bind_some] at hf
      split at hf
      · rename_i k e3
        cases e4 : ixN xs.length k with
        | none => rw [e4] at hf; cases hf
        | some j =>
          rw [e4] at hf
          cases hf
          refine ⟨H0, G0, G, ρ, d, ok, e2, fun v H1 G1 s r => ⟨_, h1, H0, G0, G1, ρ, _, ok.step s, e3, fun u H2 G2 s2 r2 => ?_⟩⟩
          cases Rb.int r2
          have st := s.trans s2
          have k2 := st.same.lst h2
          have k4 : G2 a = none := by rw [st.old a (some_ne h2)]; exact h4
          have k3 := h3.mono st.gg
          refine ⟨a, vs, k, j, rfl, rfl, k2, by rw [k3.length]; exact e4, ?_⟩
          exact q _ _ _ st.gg ((ok.step st).mut e1 h1 k2 k4 h5 (k3.set (Rp.mono s2.gg r) j))
      · cases hf
  · cases hf
def toEnv (n : Nat) (ds : List D) : Env := ds.map (fun d => some (.val d)) ++ List.replicate (n - ds.length) none
def runF (n : Nat) (F : DenS) (ds : List D) : Option D := match F (toEnv n ds) with
  | some (.ret d) => some d
  | some (.next _) => some .none
  | _ => none
theorem env_start {K : PySem.W.Frag} {H G : Hp} {N : List Str} {vs : List V} {ds : List D} (tb : TbOk K G H) (gh : Same G H) (r : RpAll K G vs ds) : EnvOk K H G H G (L2.start N vs) (toEnv N.length ds) where
  tabs := tb
  len := by unfold L2.start toEnv; simp [r.length]
  st := Step.refl gh
  sl := fun i sv h => by
    unfold toEnv at h
    unfold L2.start
    by_cases hi : i < ds.length
    · rw [List.getElem?_append_left (by simpa using hi), List.getElem?_map, List.getElem?_eq_getElem hi] at h
      cases h
      obtain ⟨v, h1, h2⟩ := r.get i (List.getElem?_eq_getElem hi)
      have hv : i < vs.length := by rw [r.length]; exact hi
      refine ⟨v, ?_, h2⟩
      rw [List.getElem?_append_left (by simpa using hv), List.getElem?_map, h1]
      rfl
    · rw [List.getElem?_append_right (by simpa using hi), List.getElem?_replicate] at h
      split at h <;> cases h
  sep := fun i j xs ys _ h _ => by
    unfold toEnv at h
    by_cases hi : i < ds.length
    · rw [List.getElem?_append_left (by simpa using hi), List.getElem?_map, List.getElem?_eq_getElem hi] at h
      cases h
    · rw [List.getElem?_append_right (by simpa using hi), List.getElem?_replicate] at h
      split at h <;> cases h
  sepD := fun i j xs ys _ h _ => by
    unfold toEnv at h
    by_cases hi : i < ds.length
    · rw [List.getElem?_append_left (by simpa using hi), List.getElem?_map, List.getElem?_eq_getElem hi] at h
      cases h
    · rw [List.getElem?_append_right (by simpa using hi), List.getElem?_replicate] at h
      split at h <;> cases h
end
end PF
namespace PF
open PySem PySem.Spec PyProof.Rows L2 RZ
section
variable {prog : Program} {w : World} {A : Around} {E : Value → Shared → Prop} {s : Shared}
theorem walks_from {I : Addr} {fp wr : List Addr} {n : Nat} {P : Nat → Value → Prop} {St : Nat → Heap → Prop} (W : Walks prog w A I fp wr n P St) (i : Nat) (hi : i ≤ n) : Walks prog w A I fp wr (n - i) (fun j v => P (i + j) v) (fun j h => St (i + j) h) where
  sub := W.sub
  frame := fun j h h' st k => W.frame (i + j) h h' st k
  item := fun j s Q E hj st hQ => W.item (i + j) s Q E (by omega) st hQ
  done := fun s Q E st hQ => W.done s Q E (by rw [show i + (n - i) = n by omega] at st; exact st) hQ
  self := fun j s Q E st hQ => W.self (i + j) s Q E st hQ
theorem items_drop {items acc : Array Value} {i : Nat} (hi : i ≤ items.size) (h : ItemsOf (fun j v => items[i + j]? = some v) acc (items.size - i)) : acc.toList = items.toList.drop i := by
  refine List.ext_getElem? fun j => ?_
  rw [List.getElem?_drop]
  by_cases hj : j < acc.size
  · have e := h.2 j acc[j] (by simp [hj])
    simp only [Array.getElem?_toList]
    rw [e]
    simp [hj]
  · have hs := h.1
    rw [List.getElem?_eq_none (by simpa using hj), List.getElem?_eq_none (by simp; omega)]
theorem unpack_starT {t : Addr} {items : Array Value} {i : Nat} {Q : List Value → Shared → Prop} (hh : A.handled = none) (ht : s.heap.IsTuple t items) (hi : i ≤ items.size) (hz : items.size ≤ sizeLine)
    (hQ : ∀ (h' : Heap) (tk : Nat), (∀ b o, s.heap.get? b = some o → h'.get? b = some o) → Q (items.toList.take i ++ [.ref h'.objs.size]) { s with heap := h'.push { cls := .type "list", data := .seq (items.toList.drop i).toArray }, toks := tk }) :
    wpAny (model prog w) A (unpackItems (.ref t) (i + 1) (some i)) Q E s := by
  have htl : t < s.heap.objs.size := by obtain ⟨o, ho, _⟩ := ht; exact Heap.lt_size ho
  have hlt : t ≠ s.heap.objs.size := Nat.ne_of_lt htl
  unfold unpackItems
  refine wpAny_bind ?_
  unfold notIterableAtAll
  refine wpAny_bind (wpAny_specialOf ht.typeIs F.slot_tuple_iter.lookup ?_)
  refine wpAny_pure ?_
  simp only [Bool.false_eq_true, if_false]
  refine wpAny_bind (wpAny_holding (wpAny_pyIter_tuple ht ?_))
  refine wpAny_bind (wpAny_holding (wpAny_draw_tuple hlt i 0 _ _ ⟨_, Heap.get?_push_size _ rfl, rfl, rfl⟩ (ht.push _) (by omega) fun h₁ hit₁ hs₁ => ?_))
  rw [List.drop_zero, if_neg (by simp; omega)]
  have ht₁ : h₁.IsTuple t items := (ht.push _).extBut hs₁.extBut hlt
  rw [Nat.zero_add] at hit₁
  have sz1 : h₁.objs.size = s.heap.objs.size + 1 := by rw [hs₁.1, Heap.size_push]
  have old1 : ∀ b o, s.heap.get? b = some o → h₁.get? b = some o := fun b o e => hs₁.extBut b o (Nat.ne_of_lt (Heap.lt_size e)) (Heap.get?_push_of_some _ e)
  have W := (walks_from (Walks.tuple (prog := prog) (w := w) (A := A.in1) hh s.heap.objs.size t hlt items) i hi).toS
  refine wpAny_bind (wpAny_holding (wpAny_collect_iter (T := "tuple_iterator") (.inr (.inr (.inr rfl))) W (fun j s' st => st.1.typeIs) ⟨by rw [Nat.add_zero]; exact hit₁, ht₁⟩ (fun b hb => ?_) (by simp) (fun s' acc hm hacc => ?_) (by omega)))
  · have e' : b = s.heap.objs.size ∨ b = t := by simpa using hb
    show b < h₁.objs.size
    rcases e' with z | z
    · rw [z, sz1]; exact Nat.lt_succ_self _
    · rw [z, sz1]; exact Nat.lt_succ_of_lt htl
  · rw [items_drop hi hacc]
    rw [if_neg (by simp)]
    simp only [Nat.add_sub_cancel, Nat.sub_self, Nat.sub_zero, List.take_length, List.drop_length, List.append_nil]
    obtain ⟨hp', g', d', tk', os'⟩ := s'
    obtain ⟨m1, m2, m3, m4, m5⟩ := hm
    have m2' : g' = s.gens := m2
    have m3' : d' = s.drawn := m3
    have m4' : os' = s.os := m4
    subst m2' m3' m4'
    have old2 : ∀ b o, s.heap.get? b = some o → hp'.get? b = some o := fun b o e => m1 b o (by simp; exact Nat.ne_of_lt (Heap.lt_size e)) (old1 b o e)
    refine wpAny_bind (wpAny_newObj_type ?_ (by simp [sizeOk]; omega))
    exact wpAny_pure (hQ _ tk' old2)
theorem draw_lst {it t : Addr} {items : Array Value} (hne : t ≠ it) : ∀ (n i : Nat) (s : Shared) (Q : List Value → Shared → Prop), s.heap.IsListIter it t i → s.heap.IsList t items → i + n ≤ items.size →
    (∀ h', h'.IsListIter it t (i + n) → Heap.SameBut it s.heap h' → Q ((items.toList.drop i).take n) { s with heap := h' }) → wpAny (model prog w) A (draw (.ref it) n) Q E s
  | 0, i, s, Q, hit, _, _, hQ => by
    show wpAny _ _ (pure []) Q E s
    exact wpAny_pure (by simpa using hQ s.heap hit (Heap.SameBut.refl ..))
  | n + 1, i, s, Q, hit, ht, hle, hQ => by
    have hlt : i < items.size := by omega
    show wpAny _ _ (pyNext (.ref it) >>= _) Q E s
    refine wpAny_bind (wpAny_pyNext_list_item hit ht (x := items[i]) (by simp [hlt]) fun h₁ hit₁ hs₁ => ?_)
    refine wpAny_bind (wpAny_holding (draw_lst hne n (i + 1) _ _ hit₁ (ht.extBut hs₁.extBut hne) (by omega) fun h₂ hit₂ hs₂ => wpAny_pure ?_))
    have hd : items.toList.drop i = items[i] :: items.toList.drop (i + 1) := by simp [List.drop_eq_getElem_cons, hlt]
    have := hQ h₂ (by rw [show i + (n + 1) = i + 1 + n by omega]; exact hit₂) (hs₁.trans hs₂)
    rw [hd, List.take_succ_cons] at this
    exact this
theorem unpack_starL {t : Addr} {items : Array Value} {i : Nat} {Q : List Value → Shared → Prop} (hh : A.handled = none) (ht : s.heap.IsList t items) (hi : i ≤ items.size) (hz : items.size ≤ sizeLine)
    (hQ : ∀ (h' : Heap) (tk : Nat), (∀ b o, s.heap.get? b = some o → h'.get? b = some o) → Q (items.toList.take i ++ [.ref h'.objs.size]) { s with heap := h'.push { cls := .type "list", data := .seq (items.toList.drop i).toArray }, toks := tk }) :
    wpAny (model prog w) A (unpackItems (.ref t) (i + 1) (some i)) Q E s := by
  have htl : t < s.heap.objs.size := by obtain ⟨o, ho, _⟩ := ht; exact Heap.lt_size ho
  have hlt : t ≠ s.heap.objs.size := Nat.ne_of_lt htl
  unfold unpackItems
  refine wpAny_bind ?_
  unfold notIterableAtAll
  refine wpAny_bind (wpAny_specialOf ht.typeIs F.slot_list_iter.lookup ?_)
  refine wpAny_pure ?_
  simp only [Bool.false_eq_true, if_false]
  refine wpAny_bind (wpAny_holding (wpAny_pyIter_list ht ?_))
  refine wpAny_bind (wpAny_holding (draw_lst hlt i 0 _ _ ⟨_, Heap.get?_push_size _ rfl, rfl, rfl⟩ (ht.push _) (by omega) fun h₁ hit₁ hs₁ => ?_))
  rw [List.drop_zero, if_neg (by simp; omega)]
  have ht₁ : h₁.IsList t items := (ht.push _).extBut hs₁.extBut hlt
  rw [Nat.zero_add] at hit₁
  have sz1 : h₁.objs.size = s.heap.objs.size + 1 := by rw [hs₁.1, Heap.size_push]
  have old1 : ∀ b o, s.heap.get? b = some o → h₁.get? b = some o := fun b o e => hs₁.extBut b o (Nat.ne_of_lt (Heap.lt_size e)) (Heap.get?_push_of_some _ e)
  have W := (walks_from (Walks.list (prog := prog) (w := w) (A := A.in1) hh s.heap.objs.size t hlt items) i hi).toS
  refine wpAny_bind (wpAny_holding (wpAny_collect_iter (T := "list_iterator") (.inr (.inr (.inl rfl))) W (fun j s' st => st.1.typeIs) ⟨by rw [Nat.add_zero]; exact hit₁, ht₁⟩ (fun b hb => ?_) (by simp) (fun s' acc hm hacc => ?_) (by omega)))
  · have e' : b = s.heap.objs.size ∨ b = t := by simpa using hb
    show b < h₁.objs.size
    rcases e' with z | z
    · rw [z, sz1]; exact Nat.lt_succ_self _
    · rw [z, sz1]; exact Nat.lt_succ_of_lt htl
  · rw [items_drop hi hacc]
    rw [if_neg (by simp)]
    simp only [Nat.add_sub_cancel, Nat.sub_self, Nat.sub_zero, List.take_length, List.drop_length, List.append_nil]
    obtain ⟨hp', g', d', tk', os'⟩ := s'
    obtain ⟨m1, m2, m3, m4, m5⟩ := hm
    have m2' : g' = s.gens := m2
    have m3' : d' = s.drawn := m3
    have m4' : os' = s.os := m4
    subst m2' m3' m4'
    have old2 : ∀ b o, s.heap.get? b = some o → hp'.get? b = some o := fun b o e => m1 b o (by simp; exact Nat.ne_of_lt (Heap.lt_size e)) (old1 b o e)
    refine wpAny_bind (wpAny_newObj_type ?_ (by simp [sizeOk]; omega))
    exact wpAny_pure (hQ _ tk' old2)
end
section
variable {X : Cx} {tg a b c e : Expr} {es : List Expr} {fa fb fc f : Den} {pos p p' apos : Pos} {i n : Nat} {x : Str}
def unstar : List Expr → List Expr
  | [] => []
  | .Starred t _ :: r => t :: unstar r
  | e :: r => e :: unstar r
theorem unstar_assign (env : PySem.Env) : ∀ es : List Expr, (unstar es).all (fun e => !isStar e) = true → (assignEach es env).map (·.2) = (assignEach (unstar es) env).map (·.2)
  | [], _ => rfl
  | e :: r, h => by
    cases e with
    | Starred t p =>
      simp only [unstar, List.all_cons, Bool.and_eq_true] at h
      show assign t env :: (assignEach r env).map (·.2) = (assignEach (t :: unstar r) env).map (·.2)
      rw [assign_star (by simpa using h.1), unstar_assign env r h.2]
      rfl
    | _ =>
      simp only [unstar, List.all_cons, Bool.and_eq_true] at h
      show _ = (assignEach (_ :: unstar r) env).map (·.2)
      rw [assign_star (by simpa using h.1), assign_star (by simpa using h.1), List.map_cons, List.map_cons, unstar_assign env r h.2]
def starLast : List Expr → Bool
  | [.Starred _ _] => true
  | e :: r => !isStar e && starLast r
  | [] => false
theorem star_find (env : PySem.Env) : ∀ es : List Expr, starLast es = true → (assignEach es env).findIdx? (·.1) = some (es.length - 1)
  | [], h => by cases h
  | [.Starred t p], _ => rfl
  | e :: r, h => by
    by_cases hs : isStar e = true
    · cases e with
      | Starred t p =>
        cases r with
        | nil => rfl
        | cons e2 r2 => simp [starLast, isStar] at h
      | _ => simp [isStar] at hs
    · have hs' : isStar e = false := by simpa using hs
      have hr : starLast r = true := by
        cases r with
        | nil => cases e <;> simp_all [starLast, isStar]
        | cons e2 r2 => cases e <;> simp_all [starLast, isStar]
      have hl : 0 < r.length := by cases r with
        | nil => cases hr
        | cons _ _ => simp
      rw [assign_star hs', List.findIdx?_cons, star_find env r hr]
      simp
      omega
def gStar (K : PySem.W.Frag) (n : Nat) (t : TGs) : TG := fun v σ H Q => ∃ a xs, v = .ref a ∧ (SqT K H a xs ∨ SqL K H a xs) ∧ n ≤ xs.length ∧ ∀ L, H L = none → t (xs.take n ++ [.ref L]) σ (upd H L (.lst (xs.drop n))) Q
theorem pg_star {k : Nat} {t : TGs} (hc : X.calm = true) (hsl : starLast es = true) (hu : (unstar es).all (fun e => !isStar e) = true) (hn : es.length = n + 1) (h : PGs X (unstar es) t) : PG X (.Tuple es k pos) (gStar X.K n t) := by
  refine ⟨fun pins s σ H v u Q I r hw => ?_⟩
  obtain ⟨a, xs, e1, hq, hl, hw⟩ := hw
  subst e1
  cases r
  rw [PyProof.Rows.assign_Tuple]
  refine wpAny_bind (wpAny_standAt ?_)
  unfold unpack
  rw [assign_len, hn, star_find _ _ hsl, hn, Nat.add_sub_cancel, unstar_assign _ _ hu]
  rcases hq with hq | hq
  · obtain ⟨its, rv, p1, hz⟩ := I.tuple hq
    have hlen := rv.length
    have hIT : s.heap.IsTuple a its.toArray := p1
    refine wpAny_bind (wpAny_holding (unpack_starT (I.ok.hd hc) hIT (by simp; omega) (by simp; omega) fun h' tk hk => ?_))
    have I1 : Inv X pins σ H { s with heap := h', toks := tk } := I.kept hk
    have I2 : Inv X pins σ (upd H h'.objs.size (.lst (xs.drop n))) { s with heap := h'.push { cls := .type "list", data := .seq (its.drop n).toArray }, toks := tk } :=
      I1.laid (t' := tk) (fun b o e => Heap.get?_push_of_some _ e) (Nat.le_refl _) (show ObjOk X.prog X.w _ _ _ (.lst (xs.drop n)) from ⟨by rw [List.length_drop]; omega, its.drop n, 0, rv.drop n, Heap.get?_push_size _ rfl⟩)
    refine h.run pins _ σ _ (xs.take n ++ [.ref h'.objs.size]) _ Q I2 ?_ (hw _ (I1.hok.fresh (Nat.le_refl _)))
    exact (rv.take n).append (.cons rfl .nil)
  · obtain ⟨its, rv, pl, hz⟩ := I.list hq
    have hlen := rv.length
    refine wpAny_bind (wpAny_holding (unpack_starL (I.ok.hd hc) pl.isList (by simp; omega) (by simp; omega) fun h' tk hk => ?_))
    have I1 : Inv X pins σ H { s with heap := h', toks := tk } := I.kept hk
    have I2 : Inv X pins σ (upd H h'.objs.size (.lst (xs.drop n))) { s with heap := h'.push { cls := .type "list", data := .seq (its.drop n).toArray }, toks := tk } :=
      I1.laid (t' := tk) (fun b o e => Heap.get?_push_of_some _ e) (Nat.le_refl _) (show ObjOk X.prog X.w _ _ _ (.lst (xs.drop n)) from ⟨by rw [List.length_drop]; omega, its.drop n, 0, rv.drop n, Heap.get?_push_size _ rfl⟩)
    refine h.run pins _ σ _ (xs.take n ++ [.ref h'.objs.size]) _ Q I2 ?_ (hw _ (I1.hok.fresh (Nat.le_refl _)))
    exact (rv.take n).append (.cons rfl .nil)
def dStar (n : Nat) (bs : List D → Env → Option Env) (f : Den) : DenS := fun ρ => match f ρ with
  | some (.tuple ds) => if n ≤ ds.length then (bs (ds.take n ++ [.list (ds.drop n)]) ρ).map .next else none
  | some (.list ds) => if n ≤ ds.length then (bs (ds.take n ++ [.list (ds.drop n)]) ρ).map .next else none
  | _ => none
theorem star_env {K : PySem.W.Frag} {H0 G0 H G : Hp} {σ : St} {ρ : Env} {vs : List V} {ds : List D} {L : Addr} (ok : EnvOk K H0 G0 H G σ ρ) (hL : H L = none) (r : RpAll K G vs ds) :
    EnvOk K H0 G0 (upd H L (.lst (vs.drop n))) (upd G L (.lst (vs.drop n))) σ ρ ∧ Same G (upd G L (.lst (vs.drop n))) ∧ RpAll K (upd G L (.lst (vs.drop n))) (vs.take n ++ [.ref L]) (ds.take n ++ [.list (ds.drop n)]) := by
  have s : Step K H G (upd H L (.lst (vs.drop n))) (upd G L (.lst (vs.drop n))) := Step.new ok.gh hL
  exact ⟨ok.step s, s.gg, ((r.take n).mono s.gg).append (.cons (.lst upd_same ((r.drop n).mono s.gg)) .nil)⟩
theorem sole_tup {es : List Expr} {k : _} {q : Pos} {e : Expr} {l : Nat} {env : PySem.Env} : swapsWithSole [.Tuple es k q] e l env = pure false := by cases e <;> rfl
theorem s_star {k : Nat} {ts : List Nat} {bs : List D → Env → Option Env} (hc : X.calm = true) (hsl : starLast es = true) (hu : (unstar es).all (fun e => !isStar e) = true) (hn : es.length = n + 1) (hw : swappedStores [.Tuple es k p] e X.env = pure none) (hg : PGs X (unstar es) (tGos X.K ts bs)) (he : PE X e (tE X.K .fz f)) :
    PS X (.Assign [.Tuple es k p] e pos) (tS X.K (dStar n bs f)) :=
  psW (ps_asg he (pg_star hc hsl hu hn hg) sole_tup hw (by rfl)) fun Dn σ H ⟨H0, G0, G, ρ, out, ok, hf, q⟩ => by
    unfold dStar at hf
    split at hf
    · rename_i ds e1
      split at hf
      · rename_i hlt
        cases e2 : bs (ds.take n ++ [.list (ds.drop n)]) ρ with
        | none => rw [e2] at hf; cases hf
        | some ρ' =>
          rw [e2] at hf
          cases hf
          refine ⟨H0, G0, G, ρ, _, ok, e1, fun v H1 G1 s r => ?_⟩
          cases r with
          | tup h rr =>
            refine ⟨_, _, rfl, .inl (.inl (rdM s.gh h.rd)), by rw [rr.length]; exact hlt, fun L hL => ?_⟩
            obtain ⟨k1, k2, k3⟩ := star_env (n := n) (ok.step s) hL rr
            exact ⟨H0, G0, _, ρ, _, ρ', k1, k3, e2, fun σ' ok' _ => q _ _ _ (s.gg.trans k2) ok'⟩
      · cases hf
    · rename_i ds e1
      split at hf
      · rename_i hlt
        cases e2 : bs (ds.take n ++ [.list (ds.drop n)]) ρ with
        | none => rw [e2] at hf; cases hf
        | some ρ' =>
          rw [e2] at hf
          cases hf
          refine ⟨H0, G0, G, ρ, _, ok, e1, fun v H1 G1 s r => ?_⟩
          cases r with
          | lst h rr =>
            refine ⟨_, _, rfl, .inr (.inl (rdM s.gh (.inl h))), by rw [rr.length]; exact hlt, fun L hL => ?_⟩
            obtain ⟨k1, k2, k3⟩ := star_env (n := n) (ok.step s) hL rr
            exact ⟨H0, G0, _, ρ, _, ρ', k1, k3, e2, fun σ' ok' _ => q _ _ _ (s.gg.trans k2) ok'⟩
      · cases hf
    · cases hf
end
end PF
namespace PF
open PySem PySem.Spec PyProof.Rows L2 RZ
section
variable {K : PySem.W.Frag} {H0 G0 H G H' G' : Hp} {σ : St} {ρ : Env} {d0 : Addr}
def OwnS (o : Option (Option SV)) : Prop := (∃ ys, o = some (some (.own ys))) ∨ ∃ ys, o = some (some (.dic ys))
def Apart (σ : St) (ρ : Env) (d0 : Addr) : Prop := ∀ (j : Nat) b, OwnS ρ[j]? → σ[j]? = some (some (.ref b)) → b ≠ d0
theorem EnvOk.apart (e : EnvOk K H0 G0 H G σ ρ) (h : H d0 = none) : Apart σ ρ d0 := fun j b h1 h2 z => by
  rcases h1 with ⟨ys, h1⟩ | ⟨ys, h1⟩
  · obtain ⟨a, vs, k1, k2, _⟩ := own_get e h1
    rw [h2] at k1
    cases k1
    rw [z, h] at k2
    cases k2
  · obtain ⟨v, k1, a, ep, vs, rfl, k2, _⟩ := e.sl j _ h1
    rw [h2] at k1
    cases k1
    rw [z, h] at k2
    cases k2
theorem EnvOk.updD {o : HO} (e : EnvOk K H0 G0 H G σ ρ) (h0 : H0 d0 = none) (hg : G d0 = none) (ap : Apart σ ρ d0) (hw : OwnN H d0) : EnvOk K H0 G0 (upd H d0 o) G σ ρ where
  tabs := e.tabs
  len := e.len
  st := ⟨e.st.same.ownN h0 hw, e.st.gg, fun b x hb => by rw [upd_ne (ne_of_none hb hg)]; exact e.gh b x hb, e.st.old⟩
  sl := fun i sv h => by
    obtain ⟨v, h1, h2⟩ := e.sl i sv h
    refine ⟨v, h1, ?_⟩
    cases sv with
    | val d => exact h2
    | own xs =>
      obtain ⟨a, vs, rfl, k1, k2, k3, k4⟩ := h2
      exact ⟨a, vs, rfl, by rw [upd_ne (ap i a (.inl ⟨xs, h⟩) h1)]; exact k1, k2, k3, k4⟩
    | dic xs =>
      obtain ⟨a, ep, vs, rfl, k1, k2, k3, k4⟩ := h2
      exact ⟨a, ep, vs, rfl, by rw [upd_ne (ap i a (.inr ⟨xs, h⟩) h1)]; exact k1, k2, k3, k4⟩
    | look xs => exact h2
  sep := e.sep
  sepD := e.sepD
theorem EnvOk.shutD {vs : List V} (e : EnvOk K H0 G0 H G σ ρ) (h0 : H0 d0 = none) (hg : G d0 = none) (hd : H d0 = some (.lst vs)) (ap : Apart σ ρ d0) : EnvOk K H0 G0 H (upd G d0 (.lst vs)) σ ρ where
  tabs := e.tabs
  len := e.len
  st := ⟨e.st.same, e.st.gg.trans (same_new hg), fun b x hb => by
    by_cases hb' : b = d0
    · subst hb'; rw [upd_same] at hb; cases hb; exact hd
    · rw [upd_ne hb'] at hb; exact e.gh b x hb, fun b hb => by
    rw [upd_ne fun z => hb (by rw [z]; exact h0)]
    exact e.st.old b hb⟩
  sl := fun i sv h => by
    obtain ⟨v, h1, h2⟩ := e.sl i sv h
    refine ⟨v, h1, ?_⟩
    cases sv with
    | val d => exact Rp.mono (same_new hg) h2
    | own xs =>
      obtain ⟨a, vs, rfl, k1, k2, k3, k4⟩ := h2
      exact ⟨a, vs, rfl, k1, k2.mono (same_new hg), by rw [upd_ne (ap i a (.inl ⟨xs, h⟩) h1)]; exact k3, k4⟩
    | dic xs =>
      obtain ⟨a, ep, vs, rfl, k1, k2, k3, k4⟩ := h2
      exact ⟨a, ep, vs, rfl, k1, k2.mono (same_new hg), by rw [upd_ne (ap i a (.inr ⟨xs, h⟩) h1)]; exact k3, k4⟩
    | look xs =>
      obtain ⟨a, vs, rfl, k1, k2⟩ := h2
      exact ⟨a, vs, rfl, k1, k2.mono (same_new hg)⟩
  sep := e.sep
  sepD := e.sepD
end
def popL (iL : Nat) (vs : List Nat) (bb : D → Env → Option Env) (g : Den) (ρ : Env) : List D → List D → Option (List D × List D)
  | [], xs => some ([], xs)
  | x :: r, xs => (bb x (wipeE (ρ.set iL (some (.own xs))) vs)).bind fun ρ1 => match ρ1[iL]?, g ρ1 with
    | some (some (.own ys)), some (.int k) => if -(2 ^ 63) ≤ k ∧ k < 2 ^ 63 then (ixN ys.length k).bind fun j => (ys[j]?).bind fun y => (popL iL vs bb g ρ r (ys.eraseIdx j)).map fun p => (y :: p.1, p.2) else none
    | _, _ => none
def dPopC (i iL : Nat) (vs : List Nat) (it : Env → Option (List D)) (bb : D → Env → Option Env) (g : Den) : DenS := fun ρ => match ρ[iL]? with
  | some (some (.own xs)) => (it ρ).bind fun items => (popL iL vs bb g ρ items xs).map fun p => .next ((ρ.set iL (some (.own p.2))).set i (some (.val (.list p.1))))
  | _ => none
theorem set_own_self {ρ : Env} {i : Nat} {xs : List D} (h : ρ[i]? = some (some (.own xs))) : ρ.set i (some (.own xs)) = ρ := by
  refine List.ext_getElem? fun j => ?_
  rw [List.getElem?_set]
  by_cases hj : i = j
  · subst hj
    have hl : i < ρ.length := (List.getElem?_eq_some_iff.mp h).1
    simp only [hl, if_true]
    exact h.symm
  · simp [hj]
theorem popc_core {pr : Bool} {K : PySem.W.Frag} {iL : Nat} {it : Env → Option (List D)} {vs ts : List Nat} {bb : D → Env → Option Env} {g : Den} (hL : iL ∉ vs) (hts : ∀ t ∈ ts, t ∈ vs) {σ : St} {H : Hp} {Q : VK} {H0 G0 G : Hp} {ρ : Env} {xs0 items res1 res2 : List D} (ok : EnvOk K H0 G0 H G σ ρ) (eL : ρ[iL]? = some (some (.own xs0))) (e1 : it ρ = some items) (e2 : popL iL vs bb g ρ items xs0 = some (res1, res2))
    (q : ∀ (D0 : Addr) (accV : List V) (Hc Gc : Hp), Same G Gc → EnvOk K H0 G0 Hc Gc σ (ρ.set iL (some (.own res2))) → Hc D0 = some (.lst accV) → Gc D0 = none → H0 D0 = none → Apart σ (ρ.set iL (some (.own res2))) D0 → RpAll K Gc accV res1 → Q (.ref D0) Hc) :
    tLc (tI pr K .fz it) (tGo pr K ts bb) tYes (tBM K "list" rPopAt (tVar iL) (tCons (tE K .bw g) tNil)) vs σ H Q := by
  refine ⟨H0, G0, G, ρ, items, ok, e1, fun J H1 G1 s1 hJ D0 hD0 => ?_⟩
  have ok1 := ok.step s1
  have ap : Apart σ ρ D0 := ok1.apart hD0
  have h00 : H0 D0 = none := ok1.st.same.free hD0
  have apS : ∀ xs : List D, Apart σ (ρ.set iL (some (.own xs))) D0 := fun xs j b k1 k2 => by
    rw [List.getElem?_set] at k1
    by_cases hj : iL = j
    · subst hj; exact ap iL b (.inl ⟨xs0, eL⟩) k2
    · simp only [hj, if_false] at k1; exact ap j b k1 k2
  have hiL : iL < ρ.length := (List.getElem?_eq_some_iff.mp eL).1
  refine ⟨fun n mm Hc => ∃ Gc accV accD xs ys, n + mm = items.length ∧ EnvOk K H0 G0 Hc Gc σ (ρ.set iL (some (.own xs))) ∧ Same G1 Gc ∧ Hc D0 = some (.lst accV) ∧ Gc D0 = none ∧ RpAll K Gc accV accD ∧ accD.length ≤ n ∧ popL iL vs bb g ρ (items.drop n) xs = some (ys, res2) ∧ accD ++ ys = res1,
    ⟨items.length, G1, [], [], xs0, res1, by omega, ?_, Same.refl _, upd_same, s1.gh.free hD0, .nil, Nat.le_refl _, by rw [List.drop_zero]; exact e2, rfl⟩, fun n mm Hc hW => ?_⟩
  · rw [set_own_self eL]
    exact ok1.updD h00 (s1.gh.free hD0) ap (.inl hD0)
  · obtain ⟨Gc, accV, accD, xs, ys, hn, okc, gg, hD, hG, ra, hal, hr, hap⟩ := hW
    by_cases hlt : n < items.length
    · have hgi : items[n]? = some items[n] := List.getElem?_eq_getElem hlt
      obtain ⟨go, yl⟩ := hJ.go Hc Gc n _ True.intro gg okc.gh hgi
      rw [List.drop_eq_getElem_cons hlt] at hr
      have hr' : (bb items[n] (wipeE (ρ.set iL (some (.own xs))) vs)).bind (fun ρ1 => match ρ1[iL]?, g ρ1 with
        | some (some (.own ys)), some (.int k) => if -(2 ^ 63) ≤ k ∧ k < 2 ^ 63 then (ixN ys.length k).bind fun j => (ys[j]?).bind fun y => (popL iL vs bb g ρ (items.drop (n + 1)) (ys.eraseIdx j)).map fun p => (y :: p.1, p.2) else none
        | _, _ => none) = some (ys, res2) := hr
      cases eb : bb items[n] (wipeE (ρ.set iL (some (.own xs))) vs) with
      | none => rw [eb] at hr'; cases hr'
      | some ρ1 =>
        rw [eb] at hr'
        simp only [Option.bind_some] at hr'
        split at hr'
        · rename_i zs k ez eg
          split at hr'
          · rename_i hk
            cases ej : ixN zs.length k with
            | none => rw [ej] at hr'; cases hr'
            | some j =>
              rw [ej] at hr'
              simp only [Option.bind_some] at hr'
              cases ey : zs[j]? with
              | none => rw [ey] at hr'; cases hr'
              | some y =>
                rw [ey] at hr'
                simp only [Option.bind_some] at hr'
                cases ep : popL iL vs bb g ρ (items.drop (n + 1)) (zs.eraseIdx j) with
                | none => rw [ep] at hr'; cases hr'
                | some pr =>
                  rw [ep] at hr'
                  obtain ⟨p1, p2⟩ := pr
                  simp only [Option.map_some, Option.some.injEq, Prod.mk.injEq] at hr'
                  obtain ⟨rfl, rfl⟩ := hr'
                  refine .inr ⟨go, fun Hn => ∃ Gn accV accD xs ys, EnvOk K H0 G0 Hn Gn σ (ρ.set iL (some (.own xs))) ∧ Same G1 Gn ∧ Hn D0 = some (.lst accV) ∧ Gn D0 = none ∧ RpAll K Gn accV accD ∧ accD.length ≤ n + 1 ∧ popL iL vs bb g ρ (items.drop (n + 1)) xs = some (ys, p2) ∧ accD ++ ys = res1,
                    fun Hn ⟨Gn, a1, a2, a3, a4, a5, a6, a7, a8, a9, a10, a11, a12⟩ => ⟨mm - 1, by omega, Gn, a1, a2, a3, a4, by omega, a5, a6, a7, a8, a9, a10, a11, a12⟩, fun x Hy hy => ?_⟩
                  obtain ⟨Gy, sy, ry⟩ := yl x Hy hy
                  have oky := okc.step sy
                  refine ⟨H0, G0, Gy, _, _, ρ1, oky.wipe vs, ry, eb, fun σ2 ok2 on2 => ⟨?_, ?_⟩⟩
                  · rw [on2 vs hts, wipe_wipe]
                  · unfold tYes
                    simp only [if_true]
                    obtain ⟨a, us, k1, k2, k3, k4, k5⟩ := own_get ok2 ez
                    have sig : σ[iL]? = some (some (.ref a)) := by
                      have w := congrArg (fun l : List (Option V) => l[iL]?) ((on2 vs hts).trans (wipe_wipe σ vs))
                      simp only [wipe_get, hL, if_false] at w
                      rw [← w]
                      exact k1
                    refine ⟨_, k1, .inl ⟨rfl, _, .inl (.inl k2)⟩, H0, G0, Gy, ρ1, _, ok2, eg, fun v2 H4 G4 s4 r4 => ?_⟩
                    cases Rb.int r4
                    have hk4 := s4.same.lst k2
                    have hg4 : G4 a = none := by rw [s4.old a (some_ne k2)]; exact k4
                    have k34 := k3.mono s4.gg
                    obtain ⟨vy, v1, v2⟩ := k34.get j ey
                    obtain ⟨q1, q2, q3, q4⟩ := ixN_seq ej
                    refine ⟨a, us, k, j, vy, rfl, rfl, hk4, hk.1, hk.2, by rw [k34.length]; exact q1, v1, ?_⟩
                    have hDy : Hy D0 = some (.lst accV) := sy.same.lst hD
                    have hD4 : H4 D0 = some (.lst accV) := s4.same.lst hDy
                    have hGy : Gy D0 = none := by rw [sy.old D0 (some_ne hD)]; exact hG
                    have hG4 : G4 D0 = none := by rw [s4.old D0 (some_ne hDy)]; exact hGy
                    have naD : a ≠ D0 := ap iL a (.inl ⟨xs0, eL⟩) sig
                    have ok4 := oky.step s4
                    have getL : (ρ.set iL (some (.own xs)))[iL]? = some (some (.own xs)) := by rw [List.getElem?_set]; simp [hiL]
                    have okm : EnvOk K H0 G0 (upd H4 a (.lst (us.eraseIdx j))) G4 σ ((ρ.set iL (some (.own xs))).set iL (some (.own (zs.eraseIdx j)))) := ok4.mut getL sig hk4 hg4 k5 (k34.eraseIdx j)
                    rw [List.set_set] at okm
                    have hlen := hJ.len
                    have ra4 := ra.mono (sy.gg.trans s4.gg)
                    refine ⟨accV, by rw [upd_ne naD.symm]; exact hD4, by rw [ra4.length]; omega, G4, accV ++ [vy], accD ++ [y], zs.eraseIdx j, p1, okm.updD h00 hG4 (apS _) (OwnN.lst (by first | exact hD4 | (rw [upd_ne naD.symm]; exact hD4))), (gg.trans sy.gg).trans s4.gg, upd_same, hG4, ra4.append (.cons v2 .nil), by rw [List.length_append]; simp; omega, ep, ?_⟩
                    rw [List.append_assoc]
                    exact hap
          · cases hr'
        · cases hr'
    · have hge : items.length ≤ n := by omega
      rw [List.drop_of_length_le hge] at hr
      have hr' : some (([] : List D), xs) = some (ys, res2) := hr
      cases hr'
      rw [List.append_nil] at hap
      subst hap
      exact .inl ⟨hJ.stop Hc Gc n True.intro gg okc.gh (by omega), q D0 accV Hc Gc (s1.gg.trans gg) okc hD hG h00 (apS _) ra⟩
theorem popc_read {pr : Bool} {K : PySem.W.Frag} {i iL : Nat} {it : Env → Option (List D)} {vs ts : List Nat} {bb : D → Env → Option Env} {g : Den} (hL : iL ∉ vs) (hts : ∀ t ∈ ts, t ∈ vs) {Dn : Ends} {σ : St} {H : Hp} (h : tS K (dPopC i iL vs it bb g) Dn σ H) :
    tAsg (tLc (tI pr K .fz it) (tGo pr K ts bb) tYes (tBM K "list" rPopAt (tVar iL) (tCons (tE K .bw g) tNil)) vs) (gName i) Dn σ H := by
  obtain ⟨H0, G0, G, ρ, out, ok, hf, q⟩ := h
  unfold dPopC at hf
  split at hf
  · rename_i xs0 eL
    obtain ⟨items, e1, hf⟩ := Option.bind_eq_some_iff.mp hf
    obtain ⟨⟨res1, res2⟩, e2, hf⟩ := Option.map_eq_some_iff.mp hf
    subst hf
    refine popc_core hL hts ok eL e1 e2 fun D0 accV Hc Gc gg okc hD hG h00 ap ra => ?_
    have okf := okc.shutD h00 hG hD ap
    have g2 : Same Gc (upd Gc D0 (.lst accV)) := same_new hG
    exact q _ _ _ (gg.trans g2) (okf.set_val (Rp.lst upd_same (ra.mono g2)))
  · cases hf
def dPopT (i iL : Nat) (vs : List Nat) (it : Env → Option (List D)) (bb : D → Env → Option Env) (g : Den) : DenS := fun ρ => match ρ[iL]? with
  | some (some (.own xs)) => (it ρ).bind fun items => (popL iL vs bb g ρ items xs).map fun p => .next ((ρ.set iL (some (.own p.2))).set i (some (.val (.tuple p.1))))
  | _ => none
theorem popt_read {pr : Bool} {K : PySem.W.Frag} {i iL : Nat} {it : Env → Option (List D)} {vs ts : List Nat} {bb : D → Env → Option Env} {g : Den} (hL : iL ∉ vs) (hts : ∀ t ∈ ts, t ∈ vs) {Dn : Ends} {σ : St} {H : Hp} (h : tS K (dPopT i iL vs it bb g) Dn σ H) :
    tAsg (tCB (fun xs H Q => ∃ p ys, xs = [.ref p] ∧ ((SqL K H p ys ∧ TN.NewT Q H ys) ∨ (SqT K H p ys ∧ Q (.ref p) H))) (tCons (tLc (tI pr K .fz it) (tGo pr K ts bb) tYes (tBM K "list" rPopAt (tVar iL) (tCons (tE K .bw g) tNil)) vs) tNil)) (gName i) Dn σ H := by
  obtain ⟨H0, G0, G, ρ, out, ok, hf, q⟩ := h
  unfold dPopT at hf
  split at hf
  · rename_i xs0 eL
    obtain ⟨items, e1, hf⟩ := Option.bind_eq_some_iff.mp hf
    obtain ⟨⟨res1, res2⟩, e2, hf⟩ := Option.map_eq_some_iff.mp hf
    subst hf
    unfold tAsg tCB
    have key : ∀ (te : TE) (Q : List V → Hp → Prop), (te σ H fun x H1 => Q [x] H1) → tCons te tNil σ H Q := fun te Q h => h
    refine key _ _ ?_
    refine popc_core hL hts ok eL e1 e2 fun D0 accV Hc Gc gg okc hD hG h00 ap ra => ?_
    refine ⟨D0, accV, rfl, .inl ⟨.inl (.inl hD), fun p o hp ho => ?_⟩⟩
    obtain ⟨s1, r1⟩ := tup_new (ds := res1) okc.gh hp ho ra
    exact q _ _ _ (gg.trans s1.gg) ((okc.step s1).set_val r1)
  · cases hf
section
variable {X : Cx} {tg iter ix : Expr} {pos p p' apos cpos sp : Pos} {i iL : Nat} {x y : Str} {scope : Scope} {own : List (Str × Nat)} {it : Env → Option (List D)} {ts : List Nat} {bb : D → Env → Option Env} {g : Den}
theorem s_popc {pr : Bool} (hc : X.calm = true) (hN : X.N.Nodup) (hy : X.N[i]? = some y) (hyl : X.env.scope.names.lookup y = some .local) (hsw : swapsWith (.ListComp (.Call (.Attribute (.Name x p) "pop" apos) [ix] [] cpos) [⟨tg, iter, [], 0⟩] scope pos) (some (.Name y p')) sp.line X.env = pure true)
    (hi : PI X tg iter (tI pr X.K .fz it)) (ok : BlkOk X.N X.env.scope scope own) (hts : ∀ t ∈ ts, t ∈ own.map (·.2)) (hL : iL ∉ own.map (·.2))
    (hg : ∀ (s : Shared) (H : Hp) (C : Addr) (cl : List (Str × Addr)) (fp : List Addr), PG (X.blk s H scope (compEnvC scope cl C X.env) fp) tg (tGo pr X.K ts bb))
    (hv : ∀ (s : Shared) (H : Hp) (C : Addr) (cl : List (Str × Addr)) (fp : List Addr), PE (X.blk s H scope (compEnvC scope cl C X.env) fp) (.Name x p) (tVar iL))
    (hx : ∀ (s : Shared) (H : Hp) (C : Addr) (cl : List (Str × Addr)) (fp : List Addr), PE (X.blk s H scope (compEnvC scope cl C X.env) fp) ix (tE X.K .bw g)) (hl : (apos.endLine == cpos.line) = true) (hst : isStar ix = false) (hs : ∀ x, foldedSetIterable iter X.env x = pure x) :
    PS X (.Assign [.Name y p'] (.ListComp (.Call (.Attribute (.Name x p) "pop" apos) [ix] [] cpos) [⟨tg, iter, [], 0⟩] scope pos) sp) (tS X.K (dPopC i iL (own.map (·.2)) it bb g)) :=
  psW (ps_setLc hc hN hy hyl hsw hi ok hg (fun _ _ _ _ _ => pts_nil) (fun s H C cl fp => pe_bm PySem.F.plainAttrs_list PySem.F.slot_list_pop PySem.F.type_list_pop mt_popAt (hv s H C cl fp) (pa_cons (hx s H C cl fp) pa_nil (st1 hst)) rfl (few1 hst) hl (st1 hst) rfl) hs) fun Dn σ H h => popc_read hL hts h
theorem s_popt {pr : Bool} {px q : Pos} (hc : X.calm = true) (hN : X.N.Nodup) (hy : X.N[i]? = some y) (hyl : Loc X.env.scope y) (hyf : X.fn y = true ∨ X.env.scope.names.lookup y = some .local) (hgT : Gl X "tuple") (hmT : X.mg "tuple" = none)
    (hi : PI X tg iter (tI pr X.K .fz it)) (ok : BlkOk X.N X.env.scope scope own) (hts : ∀ t ∈ ts, t ∈ own.map (·.2)) (hL : iL ∉ own.map (·.2))
    (hg : ∀ (s : Shared) (H : Hp) (C : Addr) (cl : List (Str × Addr)) (fp : List Addr), PG (X.blk s H scope (compEnvC scope cl C X.env) fp) tg (tGo pr X.K ts bb))
    (hv : ∀ (s : Shared) (H : Hp) (C : Addr) (cl : List (Str × Addr)) (fp : List Addr), PE (X.blk s H scope (compEnvC scope cl C X.env) fp) (.Name x p) (tVar iL))
    (hx : ∀ (s : Shared) (H : Hp) (C : Addr) (cl : List (Str × Addr)) (fp : List Addr), PE (X.blk s H scope (compEnvC scope cl C X.env) fp) ix (tE X.K .bw g)) (hl : (apos.endLine == cpos.line) = true) (hst : isStar ix = false) (hs : ∀ x, foldedSetIterable iter X.env x = pure x) :
    PS X (.Assign [.Name y p'] (.Call (.Name "tuple" px) [.ListComp (.Call (.Attribute (.Name x p) "pop" apos) [ix] [] cpos) [⟨tg, iter, [], 0⟩] scope pos] [] q) sp) (tS X.K (dPopT i iL (own.map (·.2)) it bb g)) :=
  psW (ps_set hN hy hyl (pe_callTy TN.call_tupleN hgT hmT (by decide +kernel) (pa_cons (pe_lc hc hN hi ok hg (fun _ _ _ _ _ => pts_nil) (fun s H C cl fp => pe_bm PySem.F.plainAttrs_list PySem.F.slot_list_pop PySem.F.type_list_pop mt_popAt (hv s H C cl fp) (pa_cons (hx s H C cl fp) pa_nil (st1 hst)) rfl (few1 hst) hl (st1 hst) rfl) hs) pa_nil (st1 rfl)) (by decide) (by decide) (st1 rfl) (back_ok _ _ _ rfl)) (swaps_no rfl) hyf) fun Dn σ H h => popt_read hL hts h
end
end PF
namespace PF
open PySem PySem.Spec PyProof.Rows L2 RZ
def unOwn : Option SV → Option SV
  | some (.own _) => none
  | some (.dic _) => none
  | some (.look _) => none
  | s => s
def noOwn (ρ : Env) : Env := ρ.map unOwn
theorem noOwn_get {ρ : Env} {i : Nat} {sv : SV} (h : (noOwn ρ)[i]? = some (some sv)) : ρ[i]? = some (some sv) ∧ ∃ d, sv = .val d := by
  unfold noOwn at h
  rw [List.getElem?_map] at h
  cases e : ρ[i]? with
  | none => rw [e] at h; cases h
  | some o =>
    rw [e] at h
    cases o with
    | none => cases h
    | some s =>
      cases s with
      | own xs => cases h
      | dic xs => cases h
      | look xs => cases h
      | val d => cases h; exact ⟨rfl, d, rfl⟩
theorem EnvOk.noOwn {K : PySem.W.Frag} {H0 G0 H G : Hp} {σ : St} {ρ : Env} (e : EnvOk K H0 G0 H G σ ρ) : EnvOk K H0 G0 H G σ (PF.noOwn ρ) where
  tabs := e.tabs
  len := by unfold PF.noOwn; rw [List.length_map]; exact e.len
  st := e.st
  sl := fun i sv h => e.sl i sv (noOwn_get h).1
  sep := fun i j xs ys hij h1 h2 => e.sep i j xs ys hij (noOwn_get h1).1 (noOwn_get h2).1
  sepD := fun i j xs ys hij h1 h2 => e.sepD i j xs ys hij (noOwn_get h1).1 (noOwn_get h2).1
theorem EnvOk.later {K : PySem.W.Frag} {H0 G0 H G H' G' : Hp} {σ : St} {ρ : Env} (e : EnvOk K H0 G0 H G σ (PF.noOwn ρ)) (st : Step K H0 G0 H' G') (gg : Same G G') : EnvOk K H0 G0 H' G' σ (PF.noOwn ρ) where
  tabs := e.tabs
  len := e.len
  st := st
  sl := fun i sv h => by
    obtain ⟨v, h1, h2⟩ := e.sl i sv h
    obtain ⟨_, d, rfl⟩ := noOwn_get h
    exact ⟨v, h1, Rp.mono gg h2⟩
  sep := fun i j xs ys hij h1 h2 => e.sep i j xs ys hij h1 h2
  sepD := fun i j xs ys hij h1 h2 => e.sepD i j xs ys hij h1 h2
def comp2L (b : D → Env → Option Env) (c : Env → Option Bool) (it1 : Env → Option (List D)) (vs1 : List Nat) (b1 : D → Env → Option Env) (c1 : Env → Option Bool) (e : Den) (ρ0 : Env) : List D → Option (List D)
  | [] => some []
  | x :: xs => (b x ρ0).bind fun ρ1 => (c ρ1).bind fun ok => if ok = true then (it1 (noOwn ρ1)).bind fun items => (compL b1 c1 e (wipeE (noOwn ρ1) vs1) items).bind fun ys => (comp2L b c it1 vs1 b1 c1 e ρ0 xs).map fun zs => ys ++ zs else comp2L b c it1 vs1 b1 c1 e ρ0 xs
def dComp2 (it : Env → Option (List D)) (vs : List Nat) (b : D → Env → Option Env) (c : Env → Option Bool) (it1 : Env → Option (List D)) (vs1 : List Nat) (b1 : D → Env → Option Env) (c1 : Env → Option Bool) (e : Den) : Den := fun ρ =>
  (it ρ).bind fun items => (comp2L b c it1 vs1 b1 c1 e (wipeE ρ vs) items).bind fun ys => if ys.length ≤ sizeLine then some (.list ys) else none
theorem Step.updD {K : PySem.W.Frag} {H1 G1 H G : Hp} {d0 : Addr} {o : HO} (s : Step K H1 G1 H G) (h : H1 d0 = none) (g : G d0 = none) (hw : OwnN H d0) : Step K H1 G1 (upd H d0 o) G :=
  ⟨s.same.ownN h hw, s.gg, fun b x hb => by rw [upd_ne (ne_of_none hb g)]; exact s.gh b x hb, s.old⟩
theorem comp2_read {pr : Bool} {pr1 : Bool} {K : PySem.W.Frag} {it it1 : Env → Option (List D)} {vs ts vs1 ts1 : List Nat} {bb bb1 : D → Env → Option Env} {cc cc1 : Env → Option Bool} {ee : Den} (hts : ∀ t ∈ ts, t ∈ vs) (hts1 : ∀ t ∈ ts1, t ∈ vs1) {σ : St} {H : Hp} {Q : VK} (h : tE K .ow (dComp2 it vs bb cc it1 vs1 bb1 cc1 ee) σ H Q) :
    tLc2 (tI pr K .bw it) (tGo pr K ts bb) (tT K cc) (tI pr1 K .fz it1) (tGo pr1 K ts1 bb1) (tT K cc1) (tE K .fz ee) vs vs1 σ H Q := by
  obtain ⟨H0, G0, G, ρ, d, ok, hf, q⟩ := h
  unfold dComp2 at hf
  cases e1 : it ρ with
  | none => rw [e1] at hf; cases hf
  | some items =>
    rw [e1] at hf
    simp only [Option.bind_some] at hf
    cases e2 : comp2L bb cc it1 vs1 bb1 cc1 ee (wipeE ρ vs) items with
    | none => rw [e2] at hf; cases hf
    | some res =>
      rw [e2] at hf
      simp only [Option.bind_some] at hf
      by_cases hsz : res.length ≤ sizeLine
      · rw [if_pos hsz] at hf
        cases hf
        refine ⟨H0, G0, G, ρ, items, ok, e1, fun J H1 G1 s1 hJ D0 hD0 => ?_⟩
        have ok1 := ok.step s1
        have h00 : H0 D0 = none := ok1.st.same.free hD0
        refine ⟨fun i mm Hc => ∃ Gc accV accD, i + mm = items.length ∧ Step K H1 G1 Hc Gc ∧ Hc D0 = some (.lst accV) ∧ Gc D0 = none ∧ RpAll K Gc accV accD ∧ (comp2L bb cc it1 vs1 bb1 cc1 ee (wipeE ρ vs) (items.drop i)).map (accD ++ ·) = some res,
          ⟨items.length, G1, [], [], by omega, Step.new' s1.gh hD0, upd_same, s1.gh.free hD0, .nil, by rw [List.drop_zero, e2]; rfl⟩, fun i mm Hc hW => ?_⟩
        obtain ⟨Gc, accV, accD, hi, st, hD, hG, ra, hr⟩ := hW
        by_cases hlt : i < items.length
        · have hg : items[i]? = some items[i] := List.getElem?_eq_getElem hlt
          obtain ⟨go, yl⟩ := hJ.go Hc Gc i _ st.same st.gg st.gh hg
          have hdrop : items.drop i = items[i] :: items.drop (i + 1) := List.drop_eq_getElem_cons hlt
          rw [hdrop] at hr
          refine .inr ⟨go, fun Hn => ∃ Gn accV accD, Step K H1 G1 Hn Gn ∧ Hn D0 = some (.lst accV) ∧ Gn D0 = none ∧ RpAll K Gn accV accD ∧ (comp2L bb cc it1 vs1 bb1 cc1 ee (wipeE ρ vs) (items.drop (i + 1))).map (accD ++ ·) = some res, fun Hn ⟨Gn, av, ad, h1, h2, h3, h4, h6⟩ => ⟨mm - 1, by omega, Gn, av, ad, by omega, h1, h2, h3, h4, h6⟩, fun x Hy hy => ?_⟩
          obtain ⟨Gy, sy, ry⟩ := yl x Hy hy
          have sty := st.trans sy
          have oky : EnvOk K H0 G0 Hy Gy (wipe σ vs) (wipeE ρ vs) := (ok1.step sty).wipe vs
          have hr' : ((bb items[i] (wipeE ρ vs)).bind fun ρ1 => (cc ρ1).bind fun okb => if okb = true then (it1 (noOwn ρ1)).bind fun its => (compL bb1 cc1 ee (wipeE (noOwn ρ1) vs1) its).bind fun ys => (comp2L bb cc it1 vs1 bb1 cc1 ee (wipeE ρ vs) (items.drop (i + 1))).map fun zs => ys ++ zs else comp2L bb cc it1 vs1 bb1 cc1 ee (wipeE ρ vs) (items.drop (i + 1))).map (accD ++ ·) = some res := hr
          cases eb : bb items[i] (wipeE ρ vs) with
          | none => rw [eb] at hr'; cases hr'
          | some ρ1 =>
            rw [eb] at hr'
            simp only [Option.bind_some] at hr'
            refine ⟨H0, G0, Gy, _, _, ρ1, oky, ry, eb, fun σ2 ok2 on2 => ⟨?_, ?_⟩⟩
            · rw [on2 vs hts, wipe_wipe]
            · cases ec : cc ρ1 with
              | none => rw [ec] at hr'; cases hr'
              | some bt =>
                rw [ec] at hr'
                simp only [Option.bind_some] at hr'
                refine ⟨H0, G0, Gy, ρ1, bt, ok2, ec, fun H3 G3 s3 => ?_⟩
                have hDy : Hy D0 = some (.lst accV) := sy.same.lst hD
                have hGy : Gy D0 = none := by rw [sy.old D0 (some_ne hD)]; exact hG
                have hD3 : H3 D0 = some (.lst accV) := s3.same.lst hDy
                have hG3 : G3 D0 = none := by rw [s3.old D0 (some_ne hDy)]; exact hGy
                have st3 := sty.trans s3
                have ra3 := ra.mono (sy.gg.trans s3.gg)
                cases bt with
                | false =>
                  refine iteF ?_
                  simp only [Bool.false_eq_true, if_false] at hr'
                  exact ⟨G3, accV, accD, st3, hD3, hG3, ra3, hr'⟩
                | true =>
                  refine iteT ?_
                  simp only [if_true] at hr'
                  have ok3 := (ok2.step s3).noOwn
                  cases ei : it1 (noOwn ρ1) with
                  | none => rw [ei] at hr'; cases hr'
                  | some items1 =>
                    rw [ei] at hr'
                    simp only [Option.bind_some] at hr'
                    cases eo : compL bb1 cc1 ee (wipeE (noOwn ρ1) vs1) items1 with
                    | none => rw [eo] at hr'; cases hr'
                    | some ys =>
                      rw [eo] at hr'
                      simp only [Option.bind_some] at hr'
                      cases er : comp2L bb cc it1 vs1 bb1 cc1 ee (wipeE ρ vs) (items.drop (i + 1)) with
                      | none => rw [er] at hr'; cases hr'
                      | some zs =>
                        rw [er] at hr'
                        simp only [Option.map_some, Option.some.injEq] at hr'
                        refine ⟨H0, G0, G3, noOwn ρ1, items1, ok3, ei, fun J1 H4 G4 s4 hJ1 => ?_⟩
                        have hD4 : H4 D0 = some (.lst accV) := s4.same.lst hD3
                        have hG4 : G4 D0 = none := by rw [s4.old D0 (some_ne hD3)]; exact hG3
                        refine ⟨fun j kk Hc => ∃ Gc accV accD ws, j + kk = items1.length ∧ Step K H1 G1 Hc Gc ∧ Same G4 Gc ∧ Hc D0 = some (.lst accV) ∧ Gc D0 = none ∧ RpAll K Gc accV accD ∧ compL bb1 cc1 ee (wipeE (noOwn ρ1) vs1) (items1.drop j) = some ws ∧ accD ++ (ws ++ zs) = res,
                          ⟨items1.length, G4, accV, accD, ys, by omega, st3.trans s4, Same.refl _, hD4, hG4, ra3.mono s4.gg, by rw [List.drop_zero]; exact eo, hr'⟩, fun j kk Hj hW1 => ?_⟩
                        obtain ⟨Gj, avj, adj, ws, hj, stj, ggj, hDj, hGj, raj, hrj, hres⟩ := hW1
                        have okj : EnvOk K H0 G0 Hj Gj σ2 (noOwn ρ1) := ok3.later (ok1.st.trans stj) (s4.gg.trans ggj)
                        by_cases hlt1 : j < items1.length
                        · have hg1 : items1[j]? = some items1[j] := List.getElem?_eq_getElem hlt1
                          obtain ⟨go1, yl1⟩ := hJ1.go Hj Gj j _ True.intro ggj stj.gh hg1
                          rw [List.drop_eq_getElem_cons hlt1] at hrj
                          refine .inr ⟨go1, fun Hn => ∃ Gn accV accD ws, Step K H1 G1 Hn Gn ∧ Same G4 Gn ∧ Hn D0 = some (.lst accV) ∧ Gn D0 = none ∧ RpAll K Gn accV accD ∧ compL bb1 cc1 ee (wipeE (noOwn ρ1) vs1) (items1.drop (j + 1)) = some ws ∧ accD ++ (ws ++ zs) = res, fun Hn ⟨Gn, av, ad, w, h1, h2, h3, h4, h5, h6, h7⟩ => ⟨kk - 1, by omega, Gn, av, ad, w, by omega, h1, h2, h3, h4, h5, h6, h7⟩, fun x1 Hz hz => ?_⟩
                          obtain ⟨Gz, sz, rz⟩ := yl1 x1 Hz hz
                          have okz : EnvOk K H0 G0 Hz Gz (wipe σ2 vs1) (wipeE (noOwn ρ1) vs1) := (okj.step sz).wipe vs1
                          have hrj' : ((bb1 items1[j] (wipeE (noOwn ρ1) vs1)).bind fun ρ3 => (cc1 ρ3).bind fun okb => if okb = true then (ee ρ3).bind fun y => (compL bb1 cc1 ee (wipeE (noOwn ρ1) vs1) (items1.drop (j + 1))).bind fun ys => some (y :: ys) else compL bb1 cc1 ee (wipeE (noOwn ρ1) vs1) (items1.drop (j + 1))) = some ws := hrj
                          cases eb1 : bb1 items1[j] (wipeE (noOwn ρ1) vs1) with
                          | none => rw [eb1] at hrj'; cases hrj'
                          | some ρ3 =>
                            rw [eb1] at hrj'
                            simp only [Option.bind_some] at hrj'
                            refine ⟨H0, G0, Gz, _, _, ρ3, okz, rz, eb1, fun σ3 ok5 on3 => ⟨?_, ?_⟩⟩
                            · rw [on3 vs1 hts1, wipe_wipe]
                            · cases ec1 : cc1 ρ3 with
                              | none => rw [ec1] at hrj'; cases hrj'
                              | some bt1 =>
                                rw [ec1] at hrj'
                                simp only [Option.bind_some] at hrj'
                                refine ⟨H0, G0, Gz, ρ3, bt1, ok5, ec1, fun H6 G6 s6 => ?_⟩
                                have hDz : Hz D0 = some (.lst avj) := sz.same.lst hDj
                                have hGz : Gz D0 = none := by rw [sz.old D0 (some_ne hDj)]; exact hGj
                                have hD6 : H6 D0 = some (.lst avj) := s6.same.lst hDz
                                have hG6 : G6 D0 = none := by rw [s6.old D0 (some_ne hDz)]; exact hGz
                                have st6 := (stj.trans sz).trans s6
                                have gg6 := (ggj.trans sz.gg).trans s6.gg
                                have ra6 := raj.mono (sz.gg.trans s6.gg)
                                cases bt1 with
                                | false =>
                                  refine iteF ?_
                                  simp only [Bool.false_eq_true, if_false] at hrj'
                                  exact ⟨G6, avj, adj, ws, st6, gg6, hD6, hG6, ra6, hrj', hres⟩
                                | true =>
                                  refine iteT ?_
                                  simp only [if_true] at hrj'
                                  cases ee1 : ee ρ3 with
                                  | none => rw [ee1] at hrj'; cases hrj'
                                  | some y =>
                                    rw [ee1] at hrj'
                                    simp only [Option.bind_some] at hrj'
                                    cases ew : compL bb1 cc1 ee (wipeE (noOwn ρ1) vs1) (items1.drop (j + 1)) with
                                    | none => rw [ew] at hrj'; cases hrj'
                                    | some w2 =>
                                      rw [ew] at hrj'
                                      simp only [Option.bind_some, Option.some.injEq] at hrj'
                                      subst hrj'
                                      refine ⟨H0, G0, G6, ρ3, y, ok5.step s6, ee1, fun v H7 G7 s7 r7 => ?_⟩
                                      have hD7 : H7 D0 = some (.lst avj) := s7.same.lst hD6
                                      have hG7 : G7 D0 = none := by rw [s7.old D0 (some_ne hD6)]; exact hG6
                                      have ra7 := ra6.mono s7.gg
                                      have r7' : Rp K G7 v y := r7
                                      have hlen : adj.length < sizeLine := by
                                        have := congrArg List.length hres
                                        simp only [List.length_append, List.length_cons] at this
                                        omega
                                      refine ⟨avj, hD7, by rw [ra7.length]; exact hlen, G7, avj ++ [v], adj ++ [y], w2, (st6.trans s7).updD hD0 hG7 (OwnN.lst hD7), gg6.trans s7.gg, upd_same, hG7, ra7.append (.cons r7' .nil), rfl, ?_⟩
                                      rw [← hres]
                                      simp
                        · have hge : items1.length ≤ j := by omega
                          rw [List.drop_of_length_le hge] at hrj
                          have hrj' : some ([] : List D) = some ws := hrj
                          cases hrj'
                          refine .inl ⟨hJ1.stop Hj Gj j True.intro ggj stj.gh (by omega), Gj, avj, adj, stj, hDj, hGj, raj, ?_⟩
                          first
                            | (rw [er]; simp only [Option.map_some, Option.some.injEq]; rw [← hres]; rfl)
                            | (simp only [Option.map_some, Option.some.injEq]; rw [← hres]; rfl)
        · have hge : items.length ≤ i := by omega
          rw [List.drop_of_length_le hge] at hr
          have hr' : some (accD ++ []) = some res := hr
          rw [List.append_nil] at hr'
          cases hr'
          refine .inl ⟨hJ.stop Hc Gc i st.same st.gg st.gh (by omega), ?_⟩
          refine q _ _ _ (s1.trans st) ?_
          exact ⟨D0, accV, rfl, s1.same.free hD0, hD, hG, ra⟩
      · rw [if_neg hsz] at hf; cases hf
end PF
namespace PF
open PySem PySem.Spec PyProof.Rows L2 RZ
def alikeB (ds : List D) : Bool := ds.all fun x => ds.all fun y => PySem.W.alike x y
theorem alikeB_eq {ds : List D} (h : alikeB ds = true) : ∀ x ∈ ds, ∀ y ∈ ds, PySem.W.alike x y = true := fun x hx y hy => by
  unfold alikeB at h
  exact List.all_eq_true.mp (List.all_eq_true.mp h x hx) y hy
def noN (ds : List D) : Bool := ds.all fun x => !isN x
theorem noN_eq {ds : List D} (h : noN ds = true) : ∀ x ∈ ds, x ≠ .none := fun x hx z => by
  have := List.all_eq_true.mp h x hx
  rw [z] at this
  exact absurd this (by simp [isN])
def notL : D → Bool
  | .list _ => false
  | _ => true
def bestOk (x : D) (xs : List D) (m : D) : Bool := SeqAt.shaped (.list (x :: xs)) && alikeB (x :: xs) && noN (x :: xs) && notL m
def bMin : List D → Option D
  | [.int i, .int j] => some (.int (if j < i then j else i))
  | [.list (x :: xs)] => if bestOk x xs (PySem.W.minD x xs) = true then some (PySem.W.minD x xs) else none
  | [.tuple (x :: xs)] => if bestOk x xs (PySem.W.minD x xs) = true then some (PySem.W.minD x xs) else none
  | _ => none
def bMax : List D → Option D
  | [.int i, .int j] => some (.int (if j > i then j else i))
  | [.list (x :: xs)] => if bestOk x xs (PySem.W.maxD x xs) = true then some (PySem.W.maxD x xs) else none
  | [.tuple (x :: xs)] => if bestOk x xs (PySem.W.maxD x xs) = true then some (PySem.W.maxD x xs) else none
  | _ => none
def rBest (K : PySem.W.Frag) (m : D → List D → D) : List V → Hp → VK → Prop := fun vs H Q => ∃ (p : Addr) (ys : List V) (d : D) (ds : List D), vs = [.ref p] ∧ (SqL K H p ys ∨ SqT K H p ys) ∧ DpAll K H ys (d :: ds) ∧ PySem.W.AlikeAll (d :: ds) ∧ PyData.depthAll (d :: ds) ≤ 64 ∧
  ∀ (i : Nat) v, ys[i]? = some v → (d :: ds)[i]? = some (m d ds) → Q v H
theorem reads_at {h : Heap} : ∀ {vs : List Value} {ds : List D} {as : List Addr}, ReadsAll h vs ds as → ∀ (i : Nat) (v : Value), vs[i]? = some v → ∃ d bs, ds[i]? = some d ∧ Reads h v d bs
  | _, _, _, .nil, i, v, e => by simp at e
  | _, _, _, .cons r rs, 0, v, e => by simp at e; subst e; exact ⟨_, _, rfl, r⟩
  | _, _, _, .cons r rs, i + 1, v, e => by
    rw [List.getElem?_cons_succ] at e
    obtain ⟨d, bs, h1, h2⟩ := reads_at rs i v e
    exact ⟨d, bs, by rw [List.getElem?_cons_succ]; exact h1, h2⟩
theorem vals_back : ∀ {xs : List V} {us : List Value}, Vals xs us → ∀ (i : Nat) (u : Value), us[i]? = some u → ∃ x, xs[i]? = some x ∧ RelV x u
  | _, _, .nil, i, u, e => by simp at e
  | _, _, .cons r rs, 0, u, e => by simp at e; subst e; exact ⟨_, rfl, r⟩
  | _, _, .cons r rs, i + 1, u, e => by
    rw [List.getElem?_cons_succ] at e
    obtain ⟨x, h1, h2⟩ := vals_back rs i u e
    exact ⟨x, by rw [List.getElem?_cons_succ]; exact h1, h2⟩
section
variable {X : Cx}
theorem foldl_mem {f : D → D → Bool} : ∀ (xs : List D) (x : D), xs.foldl (fun a y => if f a y then y else a) x ∈ x :: xs
  | [], x => List.mem_cons_self ..
  | y :: xs, x => by
    rw [List.foldl_cons]
    have := foldl_mem (f := f) xs (if f x y then y else x)
    rcases List.mem_cons.mp this with e | e
    · rw [e]
      split
      · exact List.mem_cons_of_mem _ (List.mem_cons_self ..)
      · exact List.mem_cons_self ..
    · exact List.mem_cons_of_mem _ (List.mem_cons_of_mem _ e)
theorem min_mem (x : D) (xs : List D) : PySem.W.minD x xs ∈ x :: xs := foldl_mem (f := fun a y => PySem.W.dataLt y a) xs x
theorem max_mem (x : D) (xs : List D) : PySem.W.maxD x xs ∈ x :: xs := foldl_mem (f := fun a y => PySem.W.dataLt a y) xs x
theorem cr_minD (hc : X.calm = true) (hu : X.A.units + 66 < cLine) : CallR X (.builtin "min") (rBest X.K PySem.W.minD) := by
  intro pins s σ H vs us Q I r h
  obtain ⟨p, ys, d, ds, rfl, hs, hp, ha, hd, q⟩ := h
  rw [Vals.ref1 r]
  rcases hs with hs | hs
  · obtain ⟨its, rv, hl, _⟩ := I.list hs
    obtain ⟨as, rr⟩ := Dp.readsAll I _ _ _ hp rv
    refine PySem.W.min_list_data (I.ok.hd hc) hl.isList (by simpa using rr) ha (by omega) fun i v h' tk bs hv hr hk => ?_
    have hv' : its[i]? = some v := by simpa using hv
    obtain ⟨x, e1, e2⟩ := vals_back rv i v hv'
    obtain ⟨d', bs', e3, e4⟩ := reads_at rr i v hv'
    have e5 : d' = PySem.W.minD d ds := PySem.W.alike_unique _ _ _ _ _ (ha.1 _ (List.mem_of_getElem? e3) _ (min_mem d ds)) (PyProof.Rows.Reads.keeps hk e4) hr
    exact ⟨x, H, I.kept hk, e2, q i x e1 (e5 ▸ e3)⟩
  · obtain ⟨its, rv, hl, _⟩ := I.tuple hs
    obtain ⟨as, rr⟩ := Dp.readsAll I _ _ _ hp rv
    refine PySem.W.min_tuple_data (I.ok.hd hc) (show s.heap.IsTuple p its.toArray from hl) (by simpa using rr) ha (by omega) fun i v h' tk bs hv hr hk => ?_
    have hv' : its[i]? = some v := by simpa using hv
    obtain ⟨x, e1, e2⟩ := vals_back rv i v hv'
    obtain ⟨d', bs', e3, e4⟩ := reads_at rr i v hv'
    have e5 : d' = PySem.W.minD d ds := PySem.W.alike_unique _ _ _ _ _ (ha.1 _ (List.mem_of_getElem? e3) _ (min_mem d ds)) (PyProof.Rows.Reads.keeps hk e4) hr
    exact ⟨x, H, I.kept hk, e2, q i x e1 (e5 ▸ e3)⟩
theorem cr_maxD (hc : X.calm = true) (hu : X.A.units + 66 < cLine) : CallR X (.builtin "max") (rBest X.K PySem.W.maxD) := by
  intro pins s σ H vs us Q I r h
  obtain ⟨p, ys, d, ds, rfl, hs, hp, ha, hd, q⟩ := h
  rw [Vals.ref1 r]
  rcases hs with hs | hs
  · obtain ⟨its, rv, hl, _⟩ := I.list hs
    obtain ⟨as, rr⟩ := Dp.readsAll I _ _ _ hp rv
    refine PySem.W.max_list_data (I.ok.hd hc) hl.isList (by simpa using rr) ha (by omega) fun i v h' tk bs hv hr hk => ?_
    have hv' : its[i]? = some v := by simpa using hv
    obtain ⟨x, e1, e2⟩ := vals_back rv i v hv'
    obtain ⟨d', bs', e3, e4⟩ := reads_at rr i v hv'
    have e5 : d' = PySem.W.maxD d ds := PySem.W.alike_unique _ _ _ _ _ (ha.1 _ (List.mem_of_getElem? e3) _ (max_mem d ds)) (PyProof.Rows.Reads.keeps hk e4) hr
    exact ⟨x, H, I.kept hk, e2, q i x e1 (e5 ▸ e3)⟩
  · obtain ⟨its, rv, hl, _⟩ := I.tuple hs
    obtain ⟨as, rr⟩ := Dp.readsAll I _ _ _ hp rv
    refine PySem.W.max_tuple_data (I.ok.hd hc) (show s.heap.IsTuple p its.toArray from hl) (by simpa using rr) ha (by omega) fun i v h' tk bs hv hr hk => ?_
    have hv' : its[i]? = some v := by simpa using hv
    obtain ⟨x, e1, e2⟩ := vals_back rv i v hv'
    obtain ⟨d', bs', e3, e4⟩ := reads_at rr i v hv'
    have e5 : d' = PySem.W.maxD d ds := PySem.W.alike_unique _ _ _ _ _ (ha.1 _ (List.mem_of_getElem? e3) _ (max_mem d ds)) (PyProof.Rows.Reads.keeps hk e4) hr
    exact ⟨x, H, I.kept hk, e2, q i x e1 (e5 ▸ e3)⟩
theorem depthAll_of {ds : List D} (h : SeqAt.shaped (.list ds) = true) : PyData.depthAll ds ≤ 64 ∧ PyData.canLayAll0 ds = true := by
  have h1 := SeqAt.depth_of_shaped h
  have h2 := SeqAt.canLay_of_shaped h
  rw [PyData.depth] at h1
  rw [PyData.canLay0] at h2
  exact ⟨by omega, h2⟩
theorem best_ok {K : PySem.W.Frag} {H G : Hp} {p : Addr} {us : List V} {x : D} {xs : List D} {m : D → List D → D} {Q : VK} (hm : m x xs ∈ x :: xs) (gh : Same G H) (hs : SqL K H p us ∨ SqT K H p us) (r : RpAll K G us (x :: xs)) (h : bestOk x xs (m x xs) = true) (q : ∀ v H' G', Step K H G H' G' → Res K H H' G' v (m x xs) .ow → Q v H') : rBest K m [.ref p] H Q := by
  unfold bestOk at h
  simp only [Bool.and_eq_true] at h
  obtain ⟨⟨⟨h1, h2⟩, h3⟩, h4⟩ := h
  obtain ⟨k1, k2⟩ := depthAll_of h1
  refine ⟨p, us, x, xs, rfl, hs, (RpAll.mono gh r).dp k2, ⟨alikeB_eq h2, noN_eq h3⟩, k1, fun i v hv hd => ?_⟩
  obtain ⟨v', e1, e2⟩ := r.get i hd
  rw [hv] at e1
  cases e1
  refine q v H G (Step.refl gh) ?_
  revert e2 h4
  cases m x xs with
  | list ys => intro h4; cases h4
  | _ => intro _ e2; exact e2
theorem cal_min {K : PySem.W.Frag} : Cal K (fun xs H Q => (∃ i j, xs = [.int i, .int j] ∧ Q (.int (if j < i then j else i)) H) ∨ rBest K PySem.W.minD xs H Q) bMin .ow := fun H G vs ds d Q gh r e q => by
  unfold bMin at e
  split at e
  · cases e
    obtain ⟨v, u, rfl, h1, h2⟩ := paired2 r
    cases h1.int
    cases h2.int
    exact .inl ⟨_, _, rfl, q _ _ _ (Step.refl gh) (ow_int _)⟩
  · split at e
    · rename_i h
      cases e
      obtain ⟨v, rfl, rv⟩ := paired1 r
      obtain ⟨a, us, rfl, h1, r1⟩ := rv.lst gh
      exact .inr (best_ok (min_mem _ _) gh (.inl (.inl h1)) r1 h q)
    · cases e
  · split at e
    · rename_i h
      cases e
      obtain ⟨v, rfl, rv⟩ := paired1 r
      obtain ⟨a, us, rfl, h1, r1⟩ := rv.tup
      exact .inr (best_ok (min_mem _ _) gh (.inr (.inl (rdM gh h1.rd))) r1 h q)
    · cases e
  · cases e
theorem cal_max {K : PySem.W.Frag} : Cal K (fun xs H Q => (∃ i j, xs = [.int i, .int j] ∧ Q (.int (if j > i then j else i)) H) ∨ rBest K PySem.W.maxD xs H Q) bMax .ow := fun H G vs ds d Q gh r e q => by
  unfold bMax at e
  split at e
  · cases e
    obtain ⟨v, u, rfl, h1, h2⟩ := paired2 r
    cases h1.int
    cases h2.int
    exact .inl ⟨_, _, rfl, q _ _ _ (Step.refl gh) (ow_int _)⟩
  · split at e
    · rename_i h
      cases e
      obtain ⟨v, rfl, rv⟩ := paired1 r
      obtain ⟨a, us, rfl, h1, r1⟩ := rv.lst gh
      exact .inr (best_ok (max_mem _ _) gh (.inl (.inl h1)) r1 h q)
    · cases e
  · split at e
    · rename_i h
      cases e
      obtain ⟨v, rfl, rv⟩ := paired1 r
      obtain ⟨a, us, rfl, h1, r1⟩ := rv.tup
      exact .inr (best_ok (max_mem _ _) gh (.inr (.inl (rdM gh h1.rd))) r1 h q)
    · cases e
  · cases e
theorem gather_tup {prog : Program} {w : World} {A : Around} {E : Value → Shared → Prop} {s : Shared} {l : Addr} {vs : List Value} {Q : List Value → Shared → Prop} (hl : IsTup s.heap l vs.toArray)
    (h : Q vs { s with heap := (s.heap.push (seqObj "list" #[] 0)).update s.heap.objs.size (Obj.mapSeq fun z => z ++ vs.toArray) }) (hsz : vs.length ≤ sizeLine) : wpAny (model prog w) A (collect (.ref l)) Q E s := by
  obtain ⟨o, ho, hc, n, hd⟩ := id hl; unfold collect; refine wpAny_bind (wpAny_runValue (codeAny_builtin entry_proto_collect' ?_))
  show wpAny _ _ (do again (.builtin "list.__iadd__" ⟨[← newList [], Value.ref l], []⟩)) _ _ s; refine wpAny_bind (wpAny_newList (wpAny_pure ⟨Code.quiet_builtin _ (by decide +kernel), codeAny_builtin entry_list_iadd' ?_⟩))
  show wpAny _ _ (Builtin.List.listExtendWith (.ref s.heap.objs.size) (Value.ref l) (.ref s.heap.objs.size)) _ _ { s with heap := s.heap.push (seqObj "list" #[] 0) }; unfold Builtin.List.listExtendWith
  have hp : (s.heap.push (seqObj "list" #[] 0)).get? l = some o := Heap.get?_push_of_some _ ho
  refine wpAny_bind (wpAny_typeOf (T := "tuple") ⟨o, hp, hc⟩ ?_); have ht : (Value.type "tuple" == Value.type "tuple") = true := rfl
  rw [if_pos (by rw [ht]; simp)]; refine wpAny_bind (listItems_at hp hd ?_); refine wpAny_bind (listItems_at (xs := #[]) (n := 0) (Heap.get?_push_size _ rfl) rfl ?_); rw [if_neg (by simp)]
  refine wpAny_bind (listUpdate_at (xs := #[]) (n := 0) (Heap.get?_push_size _ rfl) rfl ?_ (Nat.zero_le _) (by show (#[] ++ vs.toArray).size ≤ sizeLine + 1; simp only [Array.size_append, List.size_toArray, List.length_nil]; omega)); refine wpAny_pure ?_
  show wpAny (model prog w) A (do let o ← load s.heap.objs.size; match o.data with | .seq xs _ => pure xs.toList | _ => unsupported "internal:collect") Q E { s with heap := (s.heap.push (seqObj "list" #[] 0)).update s.heap.objs.size (Obj.mapSeq fun z => z ++ vs.toArray) }
  refine wpAny_bind (wpAny_load (get?_update_seq (Heap.get?_push_size _ rfl) _) ?_); show wpAny _ _ (pure ((#[] : Array Value) ++ vs.toArray).toList) Q E _; rw [show ((#[] : Array Value) ++ vs.toArray).toList = vs by simp]; exact wpAny_pure h
theorem sorted_tup {prog : Program} {w : World} {A : Around} {E : Value → Shared → Prop} {s : Shared} {β : Type} {vs : List Value} {bs : List β} {enc : β → PyData} {R : Value → β → Prop} {l : Addr} {Q : Value → Shared → Prop} (hl : IsTup s.heap l vs.toArray) (e : PySem.W.EachIs R vs bs)
    (er : PySem.W.EachIs (fun v b => ∃ as, Reads s.heap v (enc b) as) vs bs) (hal : PySem.W.AllAlike (bs.map enc)) (hk : PySem.W.Sortable (bs.map enc)) (hL : bs.length ≤ sizeLine) (hu : ∀ b, b ∈ bs → A.units + 2 + (enc b).depth < cLine)
    (h : ∀ out, out.length = bs.length → PySem.W.EachIs R out (bs.mergeSort (PySem.W.dataLe false enc)) → Q (.ref (s.heap.objs.size + 1)) { s with heap := sortedAll s.heap vs (List.toArray out) }) : wpAny (model prog w) A (call (.builtin "sorted") [.ref l]) Q E s := by
  have er' : PySem.W.EachIs (fun v b => ∃ as, Reads (PySem.W.sortingHeap (PySem.W.copyHeap s.heap vs) (s.heap.objs.size + 1) vs) v (enc b) as) vs bs := er.mono fun _ _ ⟨as, r⟩ => ⟨as, PyProof.Rows.Reads.keeps (fun _ _ => PySem.W.sorting_copy_old) r⟩
  have S := PySem.W.SortsAt.data (prog := prog) (w := w) (A := A.in1.in1) (s := { s with heap := PySem.W.sortingHeap (PySem.W.copyHeap s.heap vs) (s.heap.objs.size + 1) vs }) (PySem.W.each_map (R := fun v d => ∃ as, Reads (PySem.W.sortingHeap (PySem.W.copyHeap s.heap vs) (s.heap.objs.size + 1) vs) v d as) enc er') hal hk (PySem.W.bound_map hu)
  have hq := h _ (by rw [PySem.W.sortVals_length false rfl]; exact e.length) (PySem.W.sortVals_data false e er' hal)
  have hv : vs.length ≤ sizeLine := by rw [e.length]; exact hL
  refine PyProof.Rows.call_function_entry_kw kind_sorted plain_sorted entry_sorted (args_sorted1 _) ?_; unfold Builtin.«sorted»; refine wpAny_bind (m := checkCount "sorted" 1 1 _) (wpAny_pure ?_); refine wpAny_bind (gather_tup hl ?_ hv); refine wpAny_bind (wpAny_newList ?_ hv)
  have hz : ((s.heap.push (seqObj "list" #[] 0)).update s.heap.objs.size (Obj.mapSeq fun z => z ++ vs.toArray)).objs.size = s.heap.objs.size + 1 := by rw [Heap.size_update, size_push']
  show wpAny _ _ _ _ _ { s with heap := PySem.W.copyHeap s.heap vs }; rw [hz]
  refine wpAny_bind (wpAny_holding (PyProof.Rows.wpAny_call_entry_kw slot_list_sort ⟨_, PySem.W.copyHeap_at s.heap vs, rfl⟩ entry_list_sort ?bd (args_list_sort _)))
  case bd =>
    show wpAny (model prog w) A.in1.in1 (Builtin.«list.sort» ⟨[Value.ref (s.heap.objs.size + 1)], []⟩) _ _ _
    exact PySem.W.list_sort_vals (s := { s with heap := PySem.W.copyHeap s.heap vs }) (PySem.W.copyHeap_at s.heap vs) S hv ⟨_, rfl, wpAny_pure ⟨_, rfl, hq⟩⟩
def firstT : D → Bool
  | .tuple (_ :: _) => true
  | _ => false
def flatK : D → Bool
  | .none => false
  | .tuple _ => false
  | _ => true
def sortOk (ds : List D) : Bool := SeqAt.shaped (.list ds) && alikeB ds && (ds.all firstT || ds.all flatK) && decide (ds.length ≤ sizeLine)
def sortD (ds : List D) : List D := ds.mergeSort (PySem.W.dataLe false id)
def bSorted : List D → Option D
  | [.list ds] => if sortOk ds = true then some (.list (sortD ds)) else none
  | [.tuple ds] => if sortOk ds = true then some (.list (sortD ds)) else none
  | _ => none
def rSortD (K : PySem.W.Frag) : List V → Hp → VK → Prop := fun vs H Q => ∃ (p : Addr) (ys : List V) (ds : List D), vs = [.ref p] ∧ (SqL K H p ys ∨ SqT K H p ys) ∧ DpAll K H ys ds ∧ PySem.W.AllAlike ds ∧ PySem.W.Sortable ds ∧ PyData.depthAll ds ≤ 64 ∧ ds.length ≤ sizeLine ∧
  ∀ l, H l = none → Q (.ref l) (upd H l (.lst (((ys.zip ds).mergeSort (PySem.W.dataLe false fun b => b.2)).map (·.1))))
theorem dp_len {K : PySem.W.Frag} {H : Hp} : ∀ {ys : List V} {ds : List D}, DpAll K H ys ds → ys.length = ds.length
  | _, _, .nil => rfl
  | _, _, .cons _ t => by rw [List.length_cons, List.length_cons, dp_len t]
theorem each_vals : ∀ {ys : List V} {its : List Value} {ds : List D}, Vals ys its → ys.length = ds.length → PySem.W.EachIs (fun (v : Value) (b : V × D) => RelV b.1 v) its (ys.zip ds)
  | [], _, _, .nil, _ => .nil
  | y :: ys, _, [], .cons _ _, h => by simp at h
  | y :: ys, _, d :: ds, .cons r rs, h => .cons r (each_vals rs (by simpa using h))
theorem each_reads {h : Heap} : ∀ {ys : List V} {its : List Value} {ds : List D} {as : List Addr}, ys.length = ds.length → ReadsAll h its ds as → PySem.W.EachIs (fun (v : Value) (b : V × D) => ∃ as, Reads h v b.2 as) its (ys.zip ds)
  | [], _, [], _, _, .nil => .nil
  | [], _, _ :: _, _, h, _ => by simp at h
  | _ :: _, _, [], _, h, _ => by simp at h
  | y :: ys, _, d :: ds, _, h, .cons r rs => .cons ⟨_, r⟩ (each_reads (by simpa using h) rs)
theorem vals_each : ∀ {out : List Value} {bs : List (V × D)}, PySem.W.EachIs (fun (v : Value) (b : V × D) => RelV b.1 v) out bs → Vals (bs.map (·.1)) out
  | _, _, .nil => .nil
  | _, _, .cons r rs => .cons r (vals_each rs)
theorem zip_snd : ∀ {ys : List V} {ds : List D}, ys.length = ds.length → (ys.zip ds).map (fun b => b.2) = ds
  | [], [], _ => rfl
  | [], _ :: _, h => by simp at h
  | _ :: _, [], h => by simp at h
  | y :: ys, d :: ds, h => by rw [List.zip_cons_cons, List.map_cons, zip_snd (by simpa using h)]
theorem depth_mem : ∀ {ds : List D} {d : D}, d ∈ ds → d.depth ≤ PyData.depthAll ds
  | x :: xs, d, h => by
    rw [PyData.depthAll]
    rcases List.mem_cons.mp h with e | e
    · rw [e]; omega
    · have := depth_mem e; omega
theorem cr_sortD (hu : X.A.units + 68 < cLine) : CallR X (.builtin "sorted") (rSortD X.K) := by
  intro pins s σ H vs us Q I r h
  obtain ⟨p, ys, ds, rfl, hs, hp, ha, hk, hd, hz, q⟩ := h
  rw [Vals.ref1 r]
  have el := dp_len hp
  have es := zip_snd el
  have hbl : (ys.zip ds).length = ds.length := by rw [List.length_zip, el]; omega
  have hb : ∀ b, b ∈ ys.zip ds → X.A.units + 2 + b.2.depth < cLine := fun b hb => by
    have : b.2 ∈ ds := by
      have := List.mem_map_of_mem (f := fun b : V × D => b.2) hb
      rw [es] at this
      exact this
    have := depth_mem this
    omega
  have fin : ∀ its : List Value, ∀ out : List Value, PySem.W.EachIs (fun (v : Value) (b : V × D) => RelV b.1 v) out ((ys.zip ds).mergeSort (PySem.W.dataLe false fun b => b.2)) → EP X pins σ Q (.ref (s.heap.objs.size + 1)) { s with heap := sortedAll s.heap its (List.toArray out) } := fun its out h2 => by
    obtain ⟨ep, he'⟩ := PyProof.Rows.sortedAll_at s.heap its out.toArray
    refine ⟨.ref _, upd H (s.heap.objs.size + 1) (.lst (((ys.zip ds).mergeSort (PySem.W.dataLe false fun b => b.2)).map (·.1))), I.laid (t' := s.toks) (fun _ _ => PyProof.Rows.sortedAll_old) (Nat.le_succ _) ⟨?_, out, ep, vals_each h2, he'⟩, rfl, q _ (I.hok.fresh (Nat.le_succ _))⟩
    rw [List.length_map, List.length_mergeSort, hbl]
    exact hz
  rcases hs with hs | hs
  · obtain ⟨its, rv, hl, _⟩ := I.list hs
    obtain ⟨as, rr⟩ := Dp.readsAll I _ _ _ hp rv
    exact PySem.W.sorted_data (enc := fun b : V × D => b.2) hl.isList (each_vals rv el) (each_reads el rr) (by rw [es]; exact ha) (by rw [es]; exact hk) (by rw [hbl]; exact hz) hb fun out _ h2 => fin its out h2
  · obtain ⟨its, rv, hl, _⟩ := I.tuple hs
    obtain ⟨as, rr⟩ := Dp.readsAll I _ _ _ hp rv
    exact sorted_tup (enc := fun b : V × D => b.2) hl (each_vals rv el) (each_reads el rr) (by rw [es]; exact ha) (by rw [es]; exact hk) (by rw [hbl]; exact hz) hb fun out _ h2 => fin its out h2
theorem rp_zip {K : PySem.W.Frag} {G : Hp} : ∀ {ys : List V} {ds : List D}, RpAll K G ys ds → ∀ b ∈ ys.zip ds, Rp K G b.1 b.2
  | _, _, .nil, b, h => by simp at h
  | _, _, .cons r rs, b, h => by
    rw [List.zip_cons_cons] at h
    rcases List.mem_cons.mp h with e | e
    · rw [e]; exact r
    · exact rp_zip rs b e
theorem rp_unzip {K : PySem.W.Frag} {G : Hp} : ∀ {bs : List (V × D)}, (∀ b ∈ bs, Rp K G b.1 b.2) → RpAll K G (bs.map (·.1)) (bs.map (·.2))
  | [], _ => .nil
  | b :: bs, h => .cons (h b (List.mem_cons_self ..)) (rp_unzip fun c hc => h c (List.mem_cons_of_mem _ hc))
theorem sort_ok {K : PySem.W.Frag} {H G : Hp} {a : Addr} {us : List V} {xs : List D} {Q : VK} (gh : Same G H) (hs : SqL K H a us ∨ SqT K H a us) (r1 : RpAll K G us xs) (h : sortOk xs = true) (q : ∀ v H' G', Step K H G H' G' → Res K H H' G' v (.list (sortD xs)) .ow → Q v H') : rSortD K [.ref a] H Q := by
  unfold sortOk at h
  simp only [Bool.and_eq_true, Bool.or_eq_true, decide_eq_true_eq] at h
  obtain ⟨⟨⟨h2, h3⟩, h4⟩, h5⟩ := h
  obtain ⟨k1, k2⟩ := depthAll_of h2
  have hk : PySem.W.Sortable xs := by
    rcases h4 with h4 | h4
    · refine .inl fun d hd => ?_
      have := List.all_eq_true.mp h4 d hd
      unfold firstT at this
      split at this
      · exact ⟨_, _, rfl⟩
      · cases this
    · refine .inr fun d hd => ?_
      have := List.all_eq_true.mp h4 d hd
      exact ⟨fun z => (by rw [z] at this; cases this), fun ys z => (by rw [z] at this; cases this)⟩
  have el : us.length = xs.length := r1.length
  refine ⟨a, us, xs, rfl, hs, (RpAll.mono gh r1).dp k2, fun d hd d' hd' => alikeB_eq h3 d hd d' hd', hk, k1, h5, fun l hl => ?_⟩
  refine q _ _ _ (Step.new' gh hl) ⟨l, _, rfl, hl, upd_same, gh.free hl, ?_⟩
  have e1 : sortD xs = ((us.zip xs).mergeSort (PySem.W.dataLe false fun b => b.2)).map (·.2) := by
    unfold sortD
    have := List.map_mergeSort (l := us.zip xs) (r := PySem.W.dataLe false fun b : V × D => b.2) (s := PySem.W.dataLe false id) (f := fun b : V × D => b.2) fun a _ b _ => rfl
    rw [zip_snd el] at this
    exact this.symm
  rw [e1]
  exact rp_unzip fun b hb => rp_zip r1 b ((List.mergeSort_perm _ _).subset hb)
theorem cal_sort {K : PySem.W.Frag} : Cal K (rSortD K) bSorted .ow := fun H G vs ds d Q gh r e q => by
  unfold bSorted at e
  split at e
  · split at e
    · rename_i h
      cases e
      obtain ⟨v, rfl, rv⟩ := paired1 r
      obtain ⟨a, us, rfl, h1, r1⟩ := rv.lst gh
      exact sort_ok gh (.inl (.inl h1)) r1 h q
    · cases e
  · split at e
    · rename_i h
      cases e
      obtain ⟨v, rfl, rv⟩ := paired1 r
      obtain ⟨a, us, rfl, h1, r1⟩ := rv.tup
      exact sort_ok gh (.inr (.inl (rdM gh h1.rd))) r1 h q
    · cases e
  · cases e
end
end PF
namespace PF
open PySem PySem.Spec PyProof.Rows L2 RZ
def kwOf : List Keyword → Option (List Str × List Expr)
  | [] => some ([], [])
  | ⟨some n, v, _⟩ :: r => (kwOf r).map fun p => (n :: p.1, v :: p.2)
  | ⟨none, _, _⟩ :: _ => none
theorem kwOf_cons {n : Option Str} {v : Expr} {p : Pos} {r : List Keyword} {ks : List Str} {vs : List Expr} (h : kwOf (⟨n, v, p⟩ :: r) = some (ks, vs)) : ∃ m ks' vs', n = some m ∧ kwOf r = some (ks', vs') ∧ ks = m :: ks' ∧ vs = v :: vs' := by
  cases n with
  | none => cases h
  | some m =>
    unfold kwOf at h
    cases e : kwOf r with
    | none => rw [e] at h; cases h
    | some q =>
      rw [e] at h
      cases h
      exact ⟨m, q.1, q.2, rfl, rfl, rfl, rfl⟩
theorem kw_ok (pos : Pos) (env : PySem.Env) : ∀ {kws : List Keyword} {ks : List Str} {vs : List Expr}, kwOf kws = some (ks, vs) → (backToKw pos (keywordEach kws env)).all (·.1.isSome) = true ∧ (backToKw pos (keywordEach kws env)).filterMap (·.1) = ks ∧ (backToKw pos (keywordEach kws env)).any (·.1.isNone) = false
  | [], _, _, h => by cases h; exact ⟨rfl, rfl, rfl⟩
  | ⟨n, v, p⟩ :: r, _, _, h => by
    obtain ⟨m, ks', vs', rfl, h2, rfl, rfl⟩ := kwOf_cons h
    obtain ⟨a1, a2, a3⟩ := kw_ok pos env h2
    refine ⟨?_, ?_, ?_⟩
    · show (true && (backToKw pos (keywordEach r env)).all (·.1.isSome)) = true
      rw [a1]; rfl
    · show m :: (backToKw pos (keywordEach r env)).filterMap (·.1) = m :: ks'
      rw [a2]
    · show (false || (backToKw pos (keywordEach r env)).any (·.1.isNone)) = false
      rw [a3]; rfl
theorem r_if {X : Cx} {a b c : Expr} {fa fb fc : Den} {pos : Pos} (hc : PT X c (tT X.K (dT fc))) (ha : PE X a (tR X.K fa)) (hb : PE X b (tR X.K fb)) : PE X (.IfExp c a b pos) (tR X.K (dIf fc fa fb)) :=
  peW (pe_ifExp hc ha hb) fun σ H Q ⟨H0, G0, G, ρ, d, ok, hf, q⟩ => by
    unfold dIf at hf
    split at hf
    · rename_i e
      refine ⟨H0, G0, G, ρ, true, ok, by unfold dT; rw [e], fun H' G' s => ?_⟩
      refine iteT ?_
      exact ⟨H0, G0, G', ρ, d, ok.step s, hf, q⟩
    · rename_i e
      refine ⟨H0, G0, G, ρ, false, ok, by unfold dT; rw [e], fun H' G' s => ?_⟩
      refine iteF ?_
      exact ⟨H0, G0, G', ρ, d, ok.step s, hf, q⟩
    · cases hf
section
variable {X : Cx} {e : Expr} {es : List Expr} {f : Den} {fs zs : List Den} {pos p : Pos}
theorem k_nil : PK X [] (tA X.K (dArgs [])) := ⟨fun pos pins s σ H Q I ⟨H0, G0, G, ρ, ds, ok, hf, q⟩ => by
  cases hf
  exact pk_nil.run pos pins s σ H Q I (q [] H G (Step.refl ok.gh) .nil)⟩
theorem k_cons {n : Option Str} {kp : Pos} {kws : List Keyword} (ha : PE X e (tE X.K .fz f)) (hr : PK X kws (tA X.K (dArgs fs))) : PK X (⟨n, e, kp⟩ :: kws) (tA X.K (dArgs (f :: fs))) := ⟨fun pos pins s σ H Q I ⟨H0, G0, G, ρ, ds, ok, hf, q⟩ => by
  obtain ⟨x, xs, h1, h2, rfl⟩ := dArgs_cons hf
  refine (pk_cons ha hr).run pos pins s σ H Q I ⟨H0, G0, G, ρ, x, ok, h1, fun v H1 G1 s1 r1 => ⟨H0, G0, G1, ρ, xs, ok.step s1, h2, fun vs H2 G2 s2 r2 => ?_⟩⟩
  exact q (v :: vs) H2 G2 (s1.trans s2) (.cons (Rp.mono s2.gg r1) r2)⟩
def dCallK (F : List D → List D → Option D) (fs zs : List Den) : Den := fun ρ => (dArgs fs ρ).bind fun ds => (dArgs zs ρ).bind fun es => F ds es
def mdO (o : Bool) : Md := if o then .ow else .fz
def spG (K : PySem.W.Frag) (n : Nat) (g : List D → Option D) (o : Bool) : Sp := fun vs H Q _ => ∃ G ds d, TbOk K G H ∧ Same G H ∧ RpAll K G vs ds ∧ ds.length = n ∧ g ds = some d ∧ ∀ v H' G', Step K H G H' G' → Res K H H' G' v d (mdO o) → Q v H'
def AvK (P : Program) (w : World) (K : PySem.W.Frag) (mg : Str → Option Value) (base : Heap) (k : Nat) (x : Str) (ks : List Str) (n : Nat) (o : Bool) (F : List D → List D → Option D) : Prop :=
  ∃ fa fd ps gg gV np g, mg x = some (.ref fa) ∧ PySem.W.keepIn K (.ref fa) = true ∧ KBn K fd ps n ks gg gV ∧ FnOk P w K mg base CX0 k fa fd ps (spG K np g o) ∧
    ∀ (G : Hp) vs ds zs es d, RpAll K G vs ds → RpAll K G zs es → ds.length = n → es.length = ks.length → F ds es = some d → ∃ ds', RpAll K G (gV vs zs) ds' ∧ ds'.length = np ∧ g ds' = some d
theorem res_st {K : PySem.W.Frag} {H0 G0 H G H' G' : Hp} {v : V} {d : D} {o : Bool} (s : Step K H0 G0 H G) (r : Res K H H' G' v d (mdO o)) : Res K H0 H' G' v d (mdO o) := by
  cases o with
  | false => exact r
  | true => exact res_up s r
theorem e_callK {x : Str} {k n : Nat} {o : Bool} {ks : List Str} {kvs : List Expr} {kws : List Keyword} {F : List D → List D → Option D} (av : AvK X.prog X.w X.K X.mg X.base k x ks n o F) (hr : Room k X.A) (gl : Gl X x) (hdb : (x == ("__debug__" : Str)) = false) (hkw : kwOf kws = some (ks, kvs)) (hl : fs.length = n) (hz : zs.length = ks.length)
    (hs : (e :: es).all (fun e => !isStar e) = true) (ha : PA X (e :: es) (tA X.K (dArgs fs))) (hk : PK X kws (tA X.K (dArgs zs))) : PE X (.Call (.Name x p) (e :: es) kws pos) (tE X.K (mdO o) (dCallK F fs zs)) := by
  simp only [List.all_cons, Bool.and_eq_true] at hs
  obtain ⟨fa, fd, ps, gg, gV, np, g, h1, h2, h3, h4, h5⟩ := av
  obtain ⟨a1, a2, a3⟩ := kw_ok pos X.env hkw
  refine peW (pe_callN h4 hr gl h1 h2 h3 pass0 ha hk a1 a2 hdb (star_ok (by simpa using hs.1) _) (by rw [back_ok _ _ _ (by rw [List.all_cons, hs.1, hs.2]; rfl), a3]; rfl)) fun σ H Q ⟨H0, G0, G, ρ, d, ok, hf, q⟩ => ?_
  unfold dCallK at hf
  cases e1 : dArgs fs ρ with
  | none => rw [e1] at hf; cases hf
  | some ds =>
    rw [e1] at hf
    cases e2 : dArgs zs ρ with
    | none => rw [Option.bind_some, e2] at hf; cases hf
    | some es' =>
      rw [Option.bind_some, e2, Option.bind_some] at hf
      refine ⟨H0, G0, G, ρ, ds, ok, e1, fun vs H1 G1 s1 r1 => ⟨H0, G0, G1, ρ, es', ok.step s1, e2, fun zv H2 G2 s2 r2 => ?_⟩⟩
      have r1' := RpAll.mono s2.gg r1
      have l1 : ds.length = n := by rw [dArgs_len e1, hl]
      have l2 : es'.length = ks.length := by rw [dArgs_len e2, hz]
      obtain ⟨ds', k1, k2, k3⟩ := h5 G2 vs ds zv es' d r1' r2 l1 l2 hf
      exact ⟨by rw [r1.length, l1], by rw [r2.length, l2], G2, ds', d, s2.tb (s1.tb ok.tb), s2.gh, k1, k2, k3, fun v H' G' s' r' => q v H' G' ((s1.trans s2).trans s') (res_st (s1.trans s2) r')⟩
end
end PF
namespace PF
open PySem PySem.Spec PyProof.Rows L2 RZ
def dPut (o : Bool) (i : Nat) (d : D) (ρ : Env) : Option Env := if o then (match d with
  | .list xs => some (ρ.set i (some (.own xs)))
  | _ => none) else some (ρ.set i (some (.val d)))
def dPar (i j : Nat) (oi oj : Bool) (fa fb : Den) : DenS := fun ρ => (fa ρ).bind fun da => (fb ρ).bind fun db => (dPut oi i da ρ).bind fun ρ1 => (dPut oj j db ρ1).map .next
theorem put_ok {K : PySem.W.Frag} {H0 G0 H G H' G' : Hp} {σ : St} {ρ ρ' : Env} {o : Bool} {i : Nat} {v : V} {d : D} (ok : EnvOk K H0 G0 H G σ ρ) (s : Step K H G H' G') (r : Res K H H' G' v d (mdO o)) (h : dPut o i d ρ = some ρ') : EnvOk K H0 G0 H' G' (σ.set i (some v)) ρ' := by
  unfold dPut at h
  cases o with
  | true =>
    simp only [if_true] at h
    split at h
    · cases h
      obtain ⟨a, vs, rfl, n, h1, h2, h3⟩ := r
      exact ok.set_own s n h1 h2 h3
    · cases h
  | false =>
    simp only [Bool.false_eq_true, if_false] at h
    cases h
    exact (ok.step s).set_val r
section
variable {X : Cx} {a b : Expr} {fa fb : Den} {i j : Nat} {x y : Str} {oi oj : Bool} {px py pt pos : Pos} {kt k2 : Nat} {pt2 : Pos}
theorem s_par (hc : X.calm = true) (hN : X.N.Nodup) (hi : X.N[i]? = some x) (hj : X.N[j]? = some y) (hij : i ≠ j) (hx : X.env.scope.names.lookup x = some .local) (hy : X.env.scope.names.lookup y = some .local) (na : isStar a = false) (nb : isStar b = false)
    (ha : PE X a (tE X.K (mdO oi) fa)) (hb : PE X b (tE X.K (mdO oj) fb)) (hw : swappedStores [.Tuple [.Name x px, .Name y py] kt pt] (.Tuple [a, b] k2 pt2) X.env = pure (some [x, y])) :
    PS X (.Assign [.Tuple [.Name x px, .Name y py] kt pt] (.Tuple [a, b] k2 pt2) pos) (tS X.K (dPar i j oi oj fa fb)) :=
  psW (ps_par hc hN hi hj hij hx hy (pa_cons ha (pa_cons hb pa_nil (st1 nb)) (st1 na)) hw) fun Dn σ H ⟨H0, G0, G, ρ, out, ok, hf, q⟩ => by
    unfold dPar at hf
    cases e1 : fa ρ with
    | none => rw [e1] at hf; cases hf
    | some da =>
      rw [e1, Option.bind_some] at hf
      cases e2 : fb ρ with
      | none => rw [e2] at hf; cases hf
      | some db =>
        rw [e2, Option.bind_some] at hf
        cases e3 : dPut oi i da ρ with
        | none => rw [e3] at hf; cases hf
        | some ρ1 =>
          rw [e3, Option.bind_some] at hf
          cases e4 : dPut oj j db ρ1 with
          | none => rw [e4] at hf; cases hf
          | some ρ2 =>
            rw [e4] at hf
            cases hf
            refine ⟨H0, G0, G, ρ, da, ok, e1, fun v H1 G1 s1 r1 => ⟨H0, G0, G1, ρ, db, ok.step s1, e2, fun w H2 G2 s2 r2 => ⟨v, w, rfl, ?_⟩⟩⟩
            exact q _ _ _ (s1.trans s2).gg (put_ok (put_ok ok s1 r1 e3) s2 r2 e4)
end
def foldB : Expr → Bool
  | .Tuple vs _ _ => vs.all (foldedForSure 8)
  | _ => true
theorem stores_fold {tg e : Expr} (h : foldB e = true) (env : PySem.Env) : swappedStores [tg] e env = pure none := by
  cases e with
  | Tuple vs k p =>
    cases tg with
    | Tuple ts k2 p2 =>
      have h' : vs.all (foldedForSure 8) = true := h
      unfold swappedStores
      simp only [h']
      repeat' split
      all_goals first | rfl | (simp; done) | (simp_all; done)
    | List ts p2 =>
      have h' : vs.all (foldedForSure 8) = true := h
      unfold swappedStores
      simp only [h']
      repeat' split
      all_goals first | rfl | (simp; done) | (simp_all; done)
    | _ => rfl
  | _ => cases tg <;> rfl
def parB (sc : Scope) (x y : Str) (px py : Pos) (a b : Expr) : Bool := (match sc.kind with | .function => true | _ => false) && sc.names.lookup x == some .local && sc.names.lookup y == some .local && py.line == px.line && x != y && !isStar a && !isStar b && !(foldedForSure 8 a && foldedForSure 8 b) && !(constantsAlone 8 a && constantsAlone 8 b)
theorem stores_par {x y : Str} {px py pt pt2 : Pos} {kt k2 : Nat} {a b : Expr} {env : PySem.Env} (h : parB env.scope x y px py a b = true) : swappedStores [.Tuple [.Name x px, .Name y py] kt pt] (.Tuple [a, b] k2 pt2) env = pure (some [x, y]) := by
  unfold parB at h
  simp only [Bool.and_eq_true, beq_iff_eq, bne_iff_ne, ne_eq, Bool.not_eq_true'] at h
  obtain ⟨⟨⟨⟨⟨⟨⟨⟨h1, h2⟩, h3⟩, h4⟩, h5⟩, h6⟩, h7⟩, h8⟩, h9⟩ := h
  have hk : env.scope.kind = .function := by
    split at h1
    · assumption
    · cases h1
  have kx : (env.kindOf x == some .local) = true := beq_iff_eq.mpr h2
  have ky : (env.kindOf y == some .local) = true := beq_iff_eq.mpr h3
  have kb : (env.blockKind != ScopeKind.function) = false := by
    unfold PySem.Env.blockKind
    rw [hk]; rfl
  have hst : (fun e : Expr => match e with | .Starred .. => true | _ => false) = isStar := funext fun e => by cases e <;> rfl
  have hd : ([x, y].eraseDups.length != [x, y].length) = false := by
    have h5' : ¬y = x := fun e => h5 e.symm
    have : [x, y].eraseDups = [x, y] := by
      rw [List.eraseDups_cons, List.filter_cons_of_pos (by simpa using h5'), List.filter_nil, List.eraseDups_cons, List.filter_nil, List.eraseDups_nil]
    rw [this]; rfl
  have h8' : [a, b].all (foldedForSure 8) = false := by simp only [List.all_cons, List.all_nil, Bool.and_true]; exact h8
  have h9' : [a, b].all (constantsAlone 8) = false := by simp only [List.all_cons, List.all_nil, Bool.and_true]; exact h9
  have hany : ([a, b].any fun e : Expr => match e with | .Starred .. => true | _ => false) = false := by
    rw [hst]; simp only [List.any_cons, List.any_nil, Bool.or_false, h6, h7]
  have hn : ([Expr.Name x px, Expr.Name y py].filterMap fun e => match e with
      | .Name id pos => if (env.kindOf id == some .local && pos.line == (Option.map (fun x : Expr => x.pos.line) [Expr.Name x px, Expr.Name y py].head?).getD 0) = true then some id else none
      | _ => none) = [x, y] := by
    have e1 : (env.kindOf x == some .local && px.line == (Option.map (fun x : Expr => x.pos.line) [Expr.Name x px, Expr.Name y py].head?).getD 0) = true := by
      rw [kx, Bool.true_and]; show (px.line == px.line) = true; exact beq_self_eq_true _
    have e2 : (env.kindOf y == some .local && py.line == (Option.map (fun x : Expr => x.pos.line) [Expr.Name x px, Expr.Name y py].head?).getD 0) = true := by
      rw [ky, Bool.true_and]; show (py.line == px.line) = true; rw [h4]; exact beq_self_eq_true _
    rw [List.filterMap_cons_some (b := x) (by simp only [e1, if_true]), List.filterMap_cons_some (b := y) (by simp only [e2, if_true]), List.filterMap_nil]
  have step : swappedStores [.Tuple [.Name x px, .Name y py] kt pt] (.Tuple [a, b] k2 pt2) env = (do
      if (!([Expr.Name x px, Expr.Name y py].length == 2 || [Expr.Name x px, Expr.Name y py].length == 3) || [a, b].length != [Expr.Name x px, Expr.Name y py].length || env.blockKind != .function) = true then return none
      if ([a, b].any fun e : Expr => match e with | .Starred .. => true | _ => false) = true then return none
      let names := [Expr.Name x px, Expr.Name y py].filterMap fun e => match e with
        | .Name id pos => if (env.kindOf id == some .local && pos.line == (Option.map (fun x : Expr => x.pos.line) [Expr.Name x px, Expr.Name y py].head?).getD 0) = true then some id else none
        | _ => none
      if (names.length != [Expr.Name x px, Expr.Name y py].length || names.eraseDups.length != names.length) = true then return none
      if [a, b].all (foldedForSure 8) = true then return none
      if [a, b].all (constantsAlone 8) = true then unsupported "assign.tuple-of-constant-expressions:order-of-the-stores"
      return some names) := rfl
  rw [step, hn]
  show (if (!([Expr.Name x px, Expr.Name y py].length == 2 || [Expr.Name x px, Expr.Name y py].length == 3) || [a, b].length != [Expr.Name x px, Expr.Name y py].length || env.blockKind != .function) = true then pure none
    else if ([a, b].any fun e : Expr => match e with | .Starred .. => true | _ => false) = true then pure none
    else if (([x, y] : List Str).length != [Expr.Name x px, Expr.Name y py].length || [x, y].eraseDups.length != [x, y].length) = true then pure none
    else if [a, b].all (foldedForSure 8) = true then pure none
    else if [a, b].all (constantsAlone 8) = true then (unsupported "assign.tuple-of-constant-expressions:order-of-the-stores" >>= fun _ => pure (some [x, y])) else pure (some [x, y])) = _
  rw [hd, h8', h9', hany, kb]
  rfl
end PF
namespace HT
open PySem PySem.Spec PyProof.Rows L2
section
variable {prog : Program} {w : World} {A : Around} {E : Value → Shared → Prop} {s : Shared}
theorem fm_congr {α β : Type} {f g : α → Option β} : ∀ l : List α, (∀ x ∈ l, f x = g x) → l.filterMap f = l.filterMap g
  | [], _ => rfl
  | x :: l, h => by
    rw [List.filterMap_cons, List.filterMap_cons, h x (List.mem_cons_self ..), fm_congr l fun y hy => h y (List.mem_cons_of_mem _ hy)]
theorem adjust_rev (n : Nat) : Builtin.Slice.sliceAdjust none none (-1) (n : Int) = ((n : Int) - 1, -1) := rfl
theorem places_rev (n : Nat) : Builtin.Slice.slicePlaces ((n : Int) - 1) (-1) (-1) = n := by
  unfold Builtin.Slice.slicePlaces
  have h1 : ¬ ((-1 : Int) > 0) := by decide
  simp only [h1, if_false]
  by_cases h : (n : Int) - 1 > -1
  · have e : ((n : Int) - 1 - -1 - 1) / (- -1) = (n : Int) - 1 := by
      rw [show (- -1 : Int) = 1 by decide, Int.ediv_one]; omega
    rw [if_pos h, e]; omega
  · rw [if_neg h]; simp; omega
theorem pick_rev (xs : Array Value) : ((List.range xs.size).filterMap fun (k : Nat) => xs[((xs.size : Int) - 1 + (k : Int) * -1).toNat]?).toArray = xs.toList.reverse.toArray := by
  have e : (List.range xs.size).filterMap (fun (k : Nat) => xs[((xs.size : Int) - 1 + (k : Int) * -1).toNat]?) = ((List.range xs.size).map fun k => xs.size - 1 - k).filterMap (xs[·]?) := by
    rw [List.filterMap_map]
    refine fm_congr _ fun k hk => ?_
    have := List.mem_range.mp hk
    have e : ((xs.size : Int) - 1 + (k : Int) * -1).toNat = xs.size - 1 - k := by omega
    simp only [Function.comp, e]
  rw [e, PySem.W.krv_range, List.filterMap_reverse, PySem.W.krv_all]
theorem sliceApplied_rev {sl : Addr} {n : Nat} {vs : Value} {Q : Int × Int × Nat → Shared → Prop} (hs : s.heap.IsSliceOf sl .none .none vs) (ps : IsPart vs (some (-1)))
    (h : Q ((n : Int) - 1, -1, n) s) : wpAny (model prog w) A (Builtin.Slice.sliceApplied (.ref sl) (pure (n : Int))) Q E s := by
  obtain ⟨os, hos, hcs, hds⟩ := id hs
  unfold Builtin.Slice.sliceApplied Builtin.Slice.sliceFields
  refine wpAny_bind (wpAny_bind (wpAny_field hos hds (x := .none) rfl (wpAny_bind (wpAny_field hos hds (x := .none) rfl (wpAny_bind (wpAny_field hos hds (x := vs) rfl (wpAny_pure ?_)))))))
  refine wpAny_bind (slicePart_ ps ?_)
  show wpAny _ _ (if ((-1 : Int) == 0) = true then _ else _) _ _ s
  rw [if_neg (by decide)]
  refine wpAny_bind (slicePart_none (wpAny_bind (slicePart_none (wpAny_bind (wpAny_pure ?_)))))
  show wpAny _ _ (match Builtin.Slice.sliceAdjust none none (-1) (n : Int) with | (lo, hi) => pure (lo, (-1 : Int), Builtin.Slice.slicePlaces lo hi (-1))) _ _ s
  rw [adjust_rev n]
  show wpAny _ _ (pure ((n : Int) - 1, (-1 : Int), Builtin.Slice.slicePlaces ((n : Int) - 1) (-1) (-1))) _ _ s
  rw [places_rev]
  exact wpAny_pure h
theorem getItem_tuple_rev {t sl : Addr} {items : Array Value} {vs : Value} {Q : Value → Shared → Prop} (ht : IsTup s.heap t items) (hs : s.heap.IsSliceOf sl .none .none vs) (ps : IsPart vs (some (-1)))
    (h : Q (.ref s.heap.objs.size) { s with heap := s.heap.push { cls := .type "tuple", data := .seq items.toList.reverse.toArray } })
    (hsz : items.size ≤ sizeLine) : wpAny (model prog w) A (getItem (.ref t) (.ref sl)) Q E s := by
  have htake : sizeOk (.seq items.toList.reverse.toArray) := by
    show items.toList.reverse.toArray.size ≤ sizeLine
    rw [List.size_toArray, List.length_reverse, Array.length_toList]
    exact hsz
  obtain ⟨os, hos, hcs, hds⟩ := id hs
  have hTs : s.TypeIs (.ref sl) "slice" := ⟨os, hos, hcs⟩
  unfold getItem
  try with_reducible refine wpAny_holding ?_
  first | refine wpAny_bind (wpAny_pure ?_) | skip
  refine wpAny_bind (wpAny_sequenceKey ht.typeIs (by decide) ?_)
  refine wpAny_bind (wpAny_callSpecial?_slot (name := Str.ofString "__getitem__") ht.typeIs PyProof.Rows.slot_tuple_getitem
    (wpAny_call_entry PyProof.Rows.slot_tuple_getitem ht.typeIs entry_tuple_getitem ?_ (args_tuple_getitem _ _)))
  show wpAny _ _ (Builtin.Tuple.tupleItemsOf (.ref t) >>= _) _ _ s
  refine wpAny_bind (tupleItemsOf_ ht ?_)
  refine wpAny_bind (wpAny_typeOf hTs ?_)
  rw [if_pos (by decide)]
  refine wpAny_bind (sliceApplied_rev hs ps ?_)
  have hno : ¬ (((items.size : Int) - 1 == 0 && (-1 : Int) == 1 && items.size == items.size) = true) := by
    intro q
    rw [Bool.and_eq_true, Bool.and_eq_true] at q
    exact absurd q.1.2 (by decide)
  show wpAny _ _ (if ((items.size : Int) - 1 == 0 && (-1 : Int) == 1 && items.size == items.size) = true then _ else _) _ _ s
  rw [if_neg hno, pick_rev]
  first
    | exact wpAny_bind (m := Builtin.Tuple.tupleExact _) (wpAny_newObj_type (wpAny_pure ⟨_, rfl, wpAny_pure h⟩) htake)
    | exact wpAny_bind (m := Builtin.Tuple.tupleExact _) (wpAny_newObj_type (wpAny_bind (wpAny_pure (wpAny_pure ⟨_, rfl, wpAny_pure h⟩))) htake)
    | exact wpAny_bind (wpAny_bind (m := Builtin.Tuple.tupleExact _) (wpAny_newObj_type (wpAny_pure (wpAny_pure ⟨_, rfl, wpAny_pure h⟩)) htake))
    | exact wpAny_bind (wpAny_bind (m := Builtin.Tuple.tupleExact _) (wpAny_newObj_type (wpAny_pure ⟨_, rfl, wpAny_pure h⟩) htake))
end
end HT
namespace PF
open PySem PySem.Spec PyProof.Rows L2 RZ
section
variable {X : Cx} {e : Expr} {f : Den} {k : Nat} {p1 p2 p3 pos : Pos}
def tRevA (K : PySem.W.Frag) (te : TE) : TE := fun σ H Q => te σ H fun x H1 => ∃ a xs, x = .ref a ∧ ((SqL K H1 a xs ∧ ∀ p, H1 p = none → Q (.ref p) (upd H1 p (.lst xs.reverse))) ∨ (SqT K H1 a xs ∧ TN.NewT Q H1 xs.reverse))
theorem pe_revA {te : TE} (he : PE X e te) : PE X (.Subscript e (.Slice none none (some (.UnaryOp .USub (.Constant (.int 1) k p1) p2)) p3) pos) (tRevA X.K te) := by
  refine ⟨fun pins s σ H Q I h => ?_⟩
  refine Subscript_ (thn (he.run pins s σ H _ I h) fun v s1 ⟨x, H1, I1, r1, q1⟩ => ?_)
  obtain ⟨a, xs, ex, hx⟩ := q1
  subst ex
  cases r1
  have hst : PO X (some (.UnaryOp .USub (.Constant (.int 1) k p1) p2)) (tPart (tUn (rU fun i => .int (-i)) (tC (.int 1)))) := po_some (pe_un un_neg pe_int)
  refine wpAny_Slice (thn (po_none.run pins s1 σ H1 (fun o H2 => o = none ∧ H2 = H1) I1 ⟨rfl, rfl⟩) fun vl s2 ⟨l, H2, I2, pl, el, e2⟩ => ?_)
  subst el e2
  refine thn (po_none.run pins s2 σ H2 (fun o H3 => o = none ∧ H3 = H2) I2 ⟨rfl, rfl⟩) fun vu s3 ⟨u, H3, I3, pu, eu, e3⟩ => ?_
  subst eu e3
  refine thn (hst.run pins s3 σ H3 (fun o H4 => o = some (-1) ∧ H4 = H3) I3 ⟨1, rfl, -1, rfl, rfl, rfl⟩) fun vs s4 ⟨o, H4, I4, ps, eo, e4⟩ => ?_
  subst eo e4
  have I5 : Inv X pins σ H4 { s4 with heap := s4.heap.push { cls := .type "slice", data := .fields #[vl, vu, vs] } } := I4.kept (t' := s4.toks) fun b ob q => Heap.get?_push_of_some _ q
  have sl := Heap.IsSliceOf.new s4.heap vl vu vs
  show wpAny (model X.prog X.w) X.A (subscriptTail e (.Slice none none (some (.UnaryOp .USub (.Constant (.int 1) k p1) p2)) p3) (.ref a) (.ref s4.heap.objs.size)) (EP X pins σ Q) X.xe { s4 with heap := s4.heap.push { cls := .type "slice", data := .fields #[vl, vu, vs] } }
  rcases hx with ⟨hx, q⟩ | ⟨hx, q⟩
  · obtain ⟨its, r, ht, hz⟩ := I5.list hx
    have hlen := r.length
    refine tail_any (ops := [.ref a, .ref s4.heap.objs.size]) ht.isList.typeIs (PySem.slot_list_getitem.lookup) ?_ (by with_unfolding_all rfl)
    refine wpAny_getItem_list_slice ht.isList sl pl pu ps (by decide) ?_ (by rw [List.size_toArray]; omega)
    rw [PySem.W.krv_pick]
    refine ⟨.ref _, _, I5.laid (t' := s4.toks) (o := .lst xs.reverse) (fun b ob q => Heap.get?_push_of_some _ q) (Nat.le_refl _) ?_, rfl, q _ (I5.hok.fresh (Nat.le_refl _))⟩
    exact ⟨by rw [List.length_reverse]; exact hz, _, 0, r.reverse, Heap.get?_push_size _ rfl⟩
  · obtain ⟨its, r, ht, hz⟩ := I5.tuple hx
    have hlen := r.length
    refine tail_any (ops := [.ref a, .ref s4.heap.objs.size]) ht.typeIs (PyProof.Rows.slot_tuple_getitem.lookup) ?_ (by with_unfolding_all rfl)
    cases pl
    cases pu
    refine HT.getItem_tuple_rev ht sl ps ?_ (by rw [List.size_toArray]; omega)
    exact TN.ep_new (t' := s4.toks) I5 r.reverse (by rw [List.length_reverse]; exact hz) q
def aRev : D → Option D
  | .list xs => some (.list xs.reverse)
  | .tuple xs => some (.tuple xs.reverse)
  | _ => none
theorem e_rev (he : PE X e (tE X.K .bw f)) : PE X (.Subscript e (.Slice none none (some (.UnaryOp .USub (.Constant (.int 1) k p1) p2)) p3) pos) (tE X.K .ow (d1 aRev f)) :=
  peW (pe_revA he) fun σ H Q ⟨H0, G0, G, ρ, d, ok, hf, q⟩ => by
    unfold d1 at hf
    cases e1 : f ρ with
    | none => rw [e1] at hf; cases hf
    | some x =>
      rw [e1, Option.bind_some] at hf
      refine ⟨H0, G0, G, ρ, x, ok, e1, fun v H1 G1 s r => ?_⟩
      cases x with
      | list xs =>
        cases hf
        have key : ∀ (a : Addr) (vs : List V), Rd H1 a (.lst vs) → RpAll X.K G1 vs xs → v = .ref a → ∃ a xs, v = .ref a ∧ ((SqL X.K H1 a xs ∧ ∀ p, H1 p = none → Q (.ref p) (upd H1 p (.lst xs.reverse))) ∨ (SqT X.K H1 a xs ∧ TN.NewT Q H1 xs.reverse)) := fun a vs h rr ev =>
          ⟨a, vs, ev, .inl ⟨.inl h, fun p np => q _ _ G1 (s.trans (Step.new' s.gh np)) ⟨p, vs.reverse, rfl, s.same.free np, upd_same, s.gh.free np, rr.reverse⟩⟩⟩
        rcases r with r | ⟨ys, e2, a, vs, rfl, h1, rr⟩
        · cases r with
          | lst h rr => exact key _ _ (rdM s.gh (.inl h)) rr rfl
        · cases e2
          exact key a vs (.inl h1) rr rfl
      | tuple xs =>
        cases hf
        rcases r with r | ⟨ys, e2, _⟩
        · cases r with
          | tup h rr => exact ⟨_, _, rfl, .inr ⟨.inl (rdM s.gh h.rd), fun p o np no => q _ _ _ (s.trans (Step.new s.gh np)) (Rp.tup ⟨o, upd_same, no⟩ (rr.reverse.mono (same_new (s.gh.free np))))⟩⟩
        · cases e2
      | _ => cases hf
end
end PF
namespace PF
open PySem PySem.Spec PyProof.Rows L2 RZ
def dcL (b : D → Env → Option Env) (c : Env → Option Bool) (kk vv : Den) (ρ0 : Env) : List D → List (D × D) → Option (List (D × D))
  | [], acc => some acc
  | x :: xs, acc => (b x ρ0).bind fun ρ1 => (c ρ1).bind fun ok => if ok = true then (kk ρ1).bind fun kd => (vv ρ1).bind fun vd => (keyT kd).bind fun key => dcL b c kk vv ρ0 xs (putKV acc key kd vd) else dcL b c kk vv ρ0 xs acc
def dDComp (it : Env → Option (List D)) (vs : List Nat) (b : D → Env → Option Env) (c : Env → Option Bool) (kk vv : Den) : Den := fun ρ => (it ρ).bind fun items => (dcL b c kk vv (wipeE ρ vs) items []).map dicD
theorem putKV_len (kvs : List (D × D)) (k : NestedKey) (d v : D) : (putKV kvs k d v).length ≤ kvs.length + 1 := by
  unfold putKV
  split <;> simp
theorem Step.updN {K : PySem.W.Frag} {H G H' G' : Hp} {D0 : Addr} {o : HO} (s : Step K H G H' G') (h : H D0 = none) (g : G' D0 = none) (hw : OwnN H' D0) : Step K H G (upd H' D0 o) G' :=
  ⟨s.same.ownN h hw, s.gg, fun b x hb => by rw [upd_ne (ne_of_none hb g)]; exact s.gh b x hb, s.old⟩
theorem dcomp_read {pr : Bool} {K : PySem.W.Frag} {it : Env → Option (List D)} {vs ts : List Nat} {bb : D → Env → Option Env} {cc : Env → Option Bool} {kk vv : Den} (hts : ∀ t ∈ ts, t ∈ vs) {σ : St} {H : Hp} {Q : VK} {H0 G0 G : Hp} {ρ : Env} {items : List D} {kvs : List (D × D)}
    (ok : EnvOk K H0 G0 H G σ ρ) (e1 : it ρ = some items) (e2 : dcL bb cc kk vv (wipeE ρ vs) items [] = some kvs)
    (q : ∀ D0 ep xs H' G', Step K H G H' G' → H D0 = none → H' D0 = some (DN.DK D0 ep xs) → G' D0 = none → RpKV K G' xs kvs → Q (.ref D0) H') :
    DN.tDn (tI pr K .bw it) (tGo pr K ts bb) (tT K cc) (tE K .fz kk) (tE K .fz vv) vs σ H Q := by
  refine ⟨H0, G0, G, ρ, items, ok, e1, fun J H1 G1 s1 hJ D0 hD0 => ?_⟩
  have ok1 := ok.step s1
  have hlen := hJ.len
  refine ⟨fun i mm Hc => ∃ Gc ep xs acc, i + mm = items.length ∧ Step K H1 G1 Hc Gc ∧ Hc D0 = some (DN.DK D0 ep xs) ∧ Gc D0 = none ∧ RpKV K Gc xs acc ∧ acc.length ≤ i ∧ dcL bb cc kk vv (wipeE ρ vs) (items.drop i) acc = some kvs,
    ⟨items.length, G1, 0, [], [], by omega, Step.new' s1.gh hD0, upd_same, s1.gh.free hD0, .nil, Nat.le_refl _, by rw [List.drop_zero, e2]⟩, fun i mm Hc hW => ?_⟩
  obtain ⟨Gc, ep, xs, acc, hi, st, hD, hG, ra, hal, hr⟩ := hW
  by_cases hlt : i < items.length
  · have hg : items[i]? = some items[i] := List.getElem?_eq_getElem hlt
    obtain ⟨go, yl⟩ := hJ.go Hc Gc i _ st.same st.gg st.gh hg
    rw [List.drop_eq_getElem_cons hlt] at hr
    refine .inr ⟨go, fun Hn => ∃ Gn ep xs acc, Step K H1 G1 Hn Gn ∧ Hn D0 = some (DN.DK D0 ep xs) ∧ Gn D0 = none ∧ RpKV K Gn xs acc ∧ acc.length ≤ i + 1 ∧ dcL bb cc kk vv (wipeE ρ vs) (items.drop (i + 1)) acc = some kvs,
      fun Hn ⟨Gn, ep', xs', acc', h1, h2, h3, h4, h5, h6⟩ => ⟨mm - 1, by omega, Gn, ep', xs', acc', by omega, h1, h2, h3, h4, h5, h6⟩, fun x Hy hy => ?_⟩
    obtain ⟨Gy, sy, ry⟩ := yl x Hy hy
    have sty := st.trans sy
    have oky : EnvOk K H0 G0 Hy Gy (wipe σ vs) (wipeE ρ vs) := (ok1.step sty).wipe vs
    unfold dcL at hr
    obtain ⟨ρ1, eb, hr⟩ := Option.bind_eq_some_iff.mp hr
    obtain ⟨bt, ec, hr⟩ := Option.bind_eq_some_iff.mp hr
    refine ⟨H0, G0, Gy, _, _, ρ1, oky, ry, eb, fun σ2 ok2 on2 => ⟨by rw [on2 vs hts, wipe_wipe], ?_⟩⟩
    refine ⟨H0, G0, Gy, ρ1, bt, ok2, ec, fun H3 G3 s3 => ?_⟩
    have st3 := sty.trans s3
    have s13 : Step _ Hc Gc H3 G3 := sy.trans s3
    have hD3 : H3 D0 = some (DN.DK D0 ep xs) := s13.same.dk hD
    have hG3 : G3 D0 = none := by rw [s13.old D0 (some_ne hD)]; exact hG
    cases bt with
    | false =>
      refine iteF ?_
      simp only [Bool.false_eq_true, if_false] at hr
      exact ⟨G3, ep, xs, acc, st3, hD3, hG3, ra.mono s13.gg, by omega, hr⟩
    | true =>
      refine iteT ?_
      simp only [if_true] at hr
      obtain ⟨kd, ek, hr⟩ := Option.bind_eq_some_iff.mp hr
      obtain ⟨vd, ev, hr⟩ := Option.bind_eq_some_iff.mp hr
      obtain ⟨key, eky, hr⟩ := Option.bind_eq_some_iff.mp hr
      refine ⟨H0, G0, G3, ρ1, kd, ok2.step s3, ek, fun y H4 G4 s4 r4 => ⟨H0, G0, G4, ρ1, vd, (ok2.step s3).step s4, ev, fun z H5 G5 s5 r5 => ?_⟩⟩
      have s15 : Step _ Hc Gc H5 G5 := (s13.trans s4).trans s5
      have st5 := (st3.trans s4).trans s5
      have hD5 : H5 D0 = some (DN.DK D0 ep xs) := s15.same.dk hD
      have hG5 : G5 D0 = none := by rw [s15.old D0 (some_ne hD)]; exact hG
      have r4' : Rp K G5 y kd := Rp.mono s5.gg r4
      have ra5 := ra.mono s15.gg
      obtain ⟨⟨ds, ed⟩, _, _⟩ := keyT_tup eky
      obtain ⟨b, rfl⟩ : ∃ b, y = .ref b := by
        rw [ed] at r4'
        cases r4' with
        | tup e r => exact ⟨_, rfl⟩
      refine ⟨ep, xs, key, b, rfl, hD5, kv_keys ra5 s5.gh, key_ok r4' eky s5.gh, by rw [kv_len ra5]; omega, fun ep' => ⟨G5, ep', DN.storedN xs key b z, putKV acc key kd vd, st5.updN hD0 hG5 (OwnN.dk hD5), upd_same, hG5, kv_stored ra5 eky r4' r5, ?_, hr⟩⟩
      have := putKV_len acc key kd vd
      omega
  · have hge : items.length ≤ i := by omega
    refine .inl ⟨hJ.stop Hc Gc i st.same st.gg st.gh (by omega), ?_⟩
    rw [List.drop_of_length_le hge] at hr
    cases hr
    exact q D0 ep xs _ Gc (s1.trans st) (s1.same.free hD0) hD hG ra
section
variable {X : Cx} {pr : Bool} {kx vx tg iter : Expr} {ifs : List Expr} {scope : Scope} {own : List (Str × Nat)} {pos p' sp : Pos} {it : Env → Option (List D)} {ts : List Nat} {bb : D → Env → Option Env} {cc : Env → Option Bool} {kk vv : Den} {i : Nat} {y : Str}
abbrev PtsD (pr : Bool) (X : Cx) (kx vx tg iter : Expr) (ifs : List Expr) (scope : Scope) (own : List (Str × Nat)) (it : Env → Option (List D)) (ts : List Nat) (bb : D → Env → Option Env) (cc : Env → Option Bool) (kk vv : Den) : Prop :=
  DN.Pts X kx vx tg iter ifs scope own (tI pr X.K .bw it) (tGo pr X.K ts bb) (tT X.K cc) (tE X.K .fz kk) (tE X.K .fz vv)
theorem dComp_eq {vs : List Nat} {ρ : Env} {d : D} (h : dDComp it vs bb cc kk vv ρ = some d) : ∃ items kvs, it ρ = some items ∧ dcL bb cc kk vv (wipeE ρ vs) items [] = some kvs ∧ d = dicD kvs := by
  unfold dDComp at h
  obtain ⟨items, h1, h⟩ := Option.bind_eq_some_iff.mp h
  obtain ⟨kvs, h2, h3⟩ := Option.map_eq_some_iff.mp h
  exact ⟨items, kvs, h1, h2, h3.symm⟩
theorem dc_fz {pr : Bool} (hts : ∀ t ∈ ts, t ∈ own.map (·.2)) {K : PySem.W.Frag} {σ : St} {H : Hp} {Q : VK} (h : tE K .fz (dDComp it (own.map (·.2)) bb cc kk vv) σ H Q) : DN.tDn (tI pr K .bw it) (tGo pr K ts bb) (tT K cc) (tE K .fz kk) (tE K .fz vv) (own.map (·.2)) σ H Q := by
  obtain ⟨H0, G0, G, ρ, d, ok, hf, q⟩ := h
  obtain ⟨items, kvs, e1, e2, rfl⟩ := dComp_eq hf
  exact dcomp_read hts ok e1 e2 fun D0 ep xs H' G' s n hD hG r => q _ _ _ (s.shut n hG hD) (Rp.dic upd_same (r.mono (same_new hG)))
theorem e_dcomp (p : PtsD pr X kx vx tg iter ifs scope own it ts bb cc kk vv) (hts : ∀ t ∈ ts, t ∈ own.map (·.2)) : PE X (.DictComp kx vx [⟨tg, iter, ifs, 0⟩] scope pos) (tE X.K .fz (dDComp it (own.map (·.2)) bb cc kk vv)) :=
  peW (DN.pe_dn p) fun σ H Q h => dc_fz hts h
theorem ow_dic {f : Den} {e : Expr} (hd : ∀ ρ d, f ρ = some d → ∃ kvs, d = dicD kvs) (h : PE X e (tE X.K .fz f)) : PE X e (tE X.K .ow f) := peW h fun σ H Q ⟨H0, G0, G, ρ, d, ok, hf, q⟩ => by
  refine ⟨H0, G0, G, ρ, d, ok, hf, fun v H' G' s r => q v H' G' s ?_⟩
  obtain ⟨kvs, rfl⟩ := hd ρ d hf
  exact r
theorem s_dcomp (p : PtsD pr X kx vx tg iter ifs scope own it ts bb cc kk vv) (hts : ∀ t ∈ ts, t ∈ own.map (·.2)) (hy : X.N[i]? = some y) (hyl : X.env.scope.names.lookup y = some .local) (hsw : swapsWith (.DictComp kx vx [⟨tg, iter, ifs, 0⟩] scope pos) (some (.Name y p')) sp.line X.env = pure true) :
    PS X (.Assign [.Name y p'] (.DictComp kx vx [⟨tg, iter, ifs, 0⟩] scope pos) sp) (tS X.K (dSet i (dDComp it (own.map (·.2)) bb cc kk vv))) :=
  psW (DN.ps_dn p hy hyl hsw) fun Dn σ H h => dc_fz hts (set_read h)
def dOwnC (i : Nat) (it : Env → Option (List D)) (vs : List Nat) (b : D → Env → Option Env) (c : Env → Option Bool) (kk vv : Den) : DenS := fun ρ => (it ρ).bind fun items => (dcL b c kk vv (wipeE ρ vs) items []).map fun kvs => .next (ρ.set i (some (.dic kvs)))
theorem s_dcompO (p : PtsD pr X kx vx tg iter ifs scope own it ts bb cc kk vv) (hts : ∀ t ∈ ts, t ∈ own.map (·.2)) (hy : X.N[i]? = some y) (hyl : X.env.scope.names.lookup y = some .local) (hsw : swapsWith (.DictComp kx vx [⟨tg, iter, ifs, 0⟩] scope pos) (some (.Name y p')) sp.line X.env = pure true) :
    PS X (.Assign [.Name y p'] (.DictComp kx vx [⟨tg, iter, ifs, 0⟩] scope pos) sp) (tS X.K (dOwnC i it (own.map (·.2)) bb cc kk vv)) :=
  psW (DN.ps_dn p hy hyl hsw) fun Dn σ H ⟨H0, G0, G, ρ, out, ok, hf, q⟩ => by
    unfold dOwnC at hf
    obtain ⟨items, e1, hf⟩ := Option.bind_eq_some_iff.mp hf
    obtain ⟨kvs, e2, e3⟩ := Option.map_eq_some_iff.mp hf
    subst e3
    exact dcomp_read hts ok e1 e2 fun D0 ep xs H' G' s n hD hG r => q _ _ _ s.gg (ok.set_dic s n hD hG r)
theorem s_dcompOC (p : PtsD pr X kx vx tg iter ifs scope own it ts bb cc kk vv) (hts : ∀ t ∈ ts, t ∈ own.map (·.2)) (hN : X.N.Nodup) (hy : X.N[i]? = some y) (hx : Loc X.env.scope y) (hf : X.fn y = true ∨ X.env.scope.names.lookup y = some .local) (hsw : swapsWith (.DictComp kx vx [⟨tg, iter, ifs, 0⟩] scope pos) (some (.Name y p')) sp.line X.env = pure false) :
    PS X (.Assign [.Name y p'] (.DictComp kx vx [⟨tg, iter, ifs, 0⟩] scope pos) sp) (tS X.K (dOwnC i it (own.map (·.2)) bb cc kk vv)) :=
  psW (ps_set hN hy hx (DN.pe_dn p) hsw hf) fun Dn σ H ⟨H0, G0, G, ρ, out, ok, hf, q⟩ => by
    unfold dOwnC at hf
    obtain ⟨items, e1, hf⟩ := Option.bind_eq_some_iff.mp hf
    obtain ⟨kvs, e2, e3⟩ := Option.map_eq_some_iff.mp hf
    subst e3
    exact dcomp_read hts ok e1 e2 fun D0 ep xs H' G' s n hD hG r => q _ _ _ s.gg (ok.set_dic s n hD hG r)
end
end PF
namespace PF
open PySem PySem.Spec PyProof.Rows L2 RZ
section
variable {K : PySem.W.Frag} {H0 G0 H G H' G' : Hp} {σ : St} {ρ : Env} {i : Nat}
theorem dic_get {kvs : List (D × D)} (e : EnvOk K H0 G0 H G σ ρ) (hi : ρ[i]? = some (some (.dic kvs))) : ∃ a ep xs, σ[i]? = some (some (.ref a)) ∧ H a = some (DN.DK a ep xs) ∧ RpKV K G xs kvs ∧ G a = none ∧ H0 a = none := by
  obtain ⟨v, h1, a, ep, xs, rfl, h2, h3, h4, h5⟩ := e.sl i _ hi
  exact ⟨a, ep, xs, h1, h2, h3, h4, h5⟩
theorem EnvOk.mutD {kvs kvs' : List (D × D)} {a : Addr} {ep ep' : Nat} {vs us : List DN.Ent} (e : EnvOk K H0 G0 H G σ ρ) (hi : ρ[i]? = some (some (.dic kvs))) (hs : σ[i]? = some (some (.ref a))) (ha : H a = some (DN.DK a ep vs)) (hg : G a = none) (h0 : H0 a = none) (r : RpKV K G us kvs') :
    EnvOk K H0 G0 (upd H a (DN.DK a ep' us)) G σ (ρ.set i (some (.dic kvs'))) := by
  have hil : i < ρ.length := (List.getElem?_eq_some_iff.mp hi).1
  refine ⟨e.tabs, by rw [List.length_set]; exact e.len, ⟨e.st.same.ownN h0 (OwnN.dk ha), e.st.gg, fun b o hb => ?_, e.st.old⟩, fun j sv h => ?_, fun j k ws zs hjk q1 q2 => ?_, fun j k ws zs hjk q1 q2 => ?_⟩
  · rw [upd_ne (ne_of_none hb hg)]
    exact e.gh b o hb
  · rw [List.getElem?_set] at h
    by_cases hj : i = j
    · subst hj
      simp only [hil, if_true] at h
      cases h
      exact ⟨_, hs, a, ep', us, rfl, upd_same, r, hg, h0⟩
    · simp only [hj, if_false] at h
      obtain ⟨v, k1, k2⟩ := e.sl j sv h
      refine ⟨v, k1, ?_⟩
      cases sv with
      | val d => exact k2
      | own ws =>
        obtain ⟨b, us', rfl, k3, k4, k5, k6⟩ := k2
        exact ⟨b, us', rfl, by rw [upd_ne (lst_dk k3 ha)]; exact k3, k4, k5, k6⟩
      | dic ws =>
        obtain ⟨b, ep2, us', rfl, k3, k4, k5, k6⟩ := k2
        exact ⟨b, ep2, us', rfl, by rw [upd_ne (dic_ne e (fun z => hj z.symm) h hi k1 hs)]; exact k3, k4, k5, k6⟩
      | look ws => exact k2
  · rw [List.getElem?_set] at q1 q2
    by_cases hj : i = j
    · subst hj; simp [hil] at q1
    · by_cases hk : i = k
      · subst hk; simp [hil] at q2
      · simp only [hj, hk, if_false] at q1 q2
        exact e.sep j k ws zs hjk q1 q2
  · rw [List.getElem?_set] at q1 q2
    have get : ∀ {l : Nat} {ts : List (D × D)}, (if i = l then if i < ρ.length then some (some (SV.dic kvs')) else none else ρ[l]?) = some (some (.dic ts)) → ∃ ts', ρ[l]? = some (some (.dic ts')) := fun {l ts} q => by
      by_cases hl : i = l
      · subst hl; exact ⟨kvs, hi⟩
      · simp only [hl, if_false] at q; exact ⟨ts, q⟩
    obtain ⟨ws', w1⟩ := get q1
    obtain ⟨zs', w2⟩ := get q2
    exact e.sepD j k ws' zs' hjk w1 w2
end
section
variable {X : Cx} {a b c e : Expr} {fa fb f g : Den} {pos p p' apos px sp : Pos} {i : Nat} {x : Str}
theorem peC {t t1 t2 : TE} (h1 : PE X e t1) (h2 : PE X e t2) (w : ∀ σ H Q, t σ H Q → t1 σ H Q ∨ t2 σ H Q) : PE X e t := ⟨fun pins s σ H Q I q => (w σ H Q q).elim (h1.run pins s σ H Q I) (h2.run pins s σ H Q I)⟩
theorem ptC {t t1 t2 : TT} (h1 : PT X e t1) (h2 : PT X e t2) (w : ∀ σ H Q, t σ H Q → t1 σ H Q ∨ t2 σ H Q) : PT X e t := ⟨fun pins s σ H Q I q => (w σ H Q q).elim (h1.run pins s σ H Q I) (h2.run pins s σ H Q I)⟩
structure NmOk (X : Cx) (i : Nat) (x : Str) : Prop where
  n : X.N[i]? = some x
  v : Vis X.env.scope x
  d : (x == ("__debug__" : Str)) = false
  cd : (x == ("__classdict__" : Str)) = false
theorem NmOk.pe (h : NmOk X i x) : PE X (.Name x p) (tVar i) := pe_var h.n h.v h.d h.cd
theorem NmOk.eB (h : NmOk X i x) : PE X (.Name x p) (tE X.K .bw (dVarB i)) := e_varB h.n h.v h.d h.cd
def dGetN (i : Nat) (g : Den) : Den := fun ρ => match ρ[i]? with
  | some (some (.dic kvs)) => (g ρ).bind fun d => (keyT d).bind (getKV kvs)
  | _ => d2 aIx (dVarB i) g ρ
theorem noSl (h : isSlice c = false) : NoSl c := fun ov iv => by cases c <;> first | rfl | (exact absurd h (by simp [isSlice]))
theorem e_getN (hu : X.A.units + 65 < cLine) (hn : NmOk X i x) (hs : isSlice c = false) (hc : PE X c (tE X.K .bw g)) : PE X (.Subscript (.Name x p) c pos) (tE X.K .fz (dGetN i g)) :=
  peC (DN.pe_nget (by omega) hn.pe hc (noSl hs)) (e_ix hu hs hn.eB hc) fun σ H Q ⟨H0, G0, G, ρ, d, ok, hf, q⟩ => by
    unfold dGetN at hf
    split at hf
    · rename_i kvs ei
      obtain ⟨dk, e1, hf1⟩ := Option.bind_eq_some_iff.mp hf
      obtain ⟨k, e2, hf2⟩ := Option.bind_eq_some_iff.mp hf1
      obtain ⟨a, ep, xs, h1, h2, h3, h4, h5⟩ := dic_get ok ei
      refine .inl ⟨_, h1, H0, G0, G, ρ, dk, ok, e1, fun v H1 G1 s r => ?_⟩
      obtain ⟨⟨ds, rfl⟩, _, _⟩ := keyT_tup e2
      have r' := r.noL fun _ z => nomatch z
      have r3 := h3.mono s.gg
      rcases kv_at (k := k) r3 with ⟨_, z⟩ | ⟨b, w, d', z1, z2, rw'⟩
      · rw [z] at hf2; cases hf2
      · rw [z2] at hf2
        cases hf2
        obtain ⟨b', rfl⟩ : ∃ b', v = .ref b' := by cases r' with | tup e r => exact ⟨_, rfl⟩
        exact ⟨a, ep, xs, k, b', rfl, rfl, s.same.dk h2, kv_keys r3 s.gh, key_ok r' e2 s.gh, w, by rw [z1]; rfl, q _ _ _ s rw'⟩
    · exact .inr ⟨H0, G0, G, ρ, d, ok, hf, q⟩
def dInN (n : Bool) (f : Den) (i : Nat) : Den := fun ρ => match ρ[i]? with
  | some (some (.dic kvs)) => (f ρ).bind fun d => (keyT d).map fun k => .bool (if n = true then !(getKV kvs k).isSome else (getKV kvs k).isSome)
  | _ => d2 (aCmp (if n = true then .NotIn else .In)) f (dVarB i) ρ
def inOp (n : Bool) : CmpOp := if n = true then .NotIn else .In
theorem op_inA (hu : X.A.units + 65 < cLine) (n : Bool) : OpR X (compareOp (inOp n)) (rInN n) := by
  cases n with
  | true => exact op_notInN hu
  | false => exact op_inN hu
theorem inN_read {n : Bool} {σ : St} {H H0 G0 G : Hp} {ρ : Env} {kvs : List (D × D)} {dk : D} {k : NestedKey} {Q : VK} (ok : EnvOk X.K H0 G0 H G σ ρ) (ei : ρ[i]? = some (some (.dic kvs))) (e1 : fa ρ = some dk) (e2 : keyT dk = some k)
    (q : ∀ H' G', Step X.K H G H' G' → Q (.bl (if n = true then !(getKV kvs k).isSome else (getKV kvs k).isSome)) H') : tOp (rInN n) (tE X.K .bw fa) (tVar i) σ H Q := by
  obtain ⟨a, ep, xs, h1, h2, h3, h4, h5⟩ := dic_get ok ei
  refine ⟨H0, G0, G, ρ, dk, ok, e1, fun v H1 G1 s r => ⟨_, h1, ?_⟩⟩
  obtain ⟨⟨ds, rfl⟩, _, _⟩ := keyT_tup e2
  have r' := r.noL fun _ z => nomatch z
  have r3 := h3.mono s.gg
  obtain ⟨b', rfl⟩ : ∃ b', v = .ref b' := by cases r' with | tup e r => exact ⟨_, rfl⟩
  refine ⟨a, ep, xs, k, b', rfl, rfl, s.same.dk h2, kv_keys r3 s.gh, key_ok r' e2 s.gh, ?_⟩
  show Q (.bl (if n = true then !(DN.atN xs k).isSome else (DN.atN xs k).isSome)) H1
  rw [kv_some r3]
  exact q _ _ s
theorem e_inN {n : Bool} (hu : X.A.units + 65 < cLine) (hn : NmOk X i x) (hm : behindInMarks (inOp n) (.Name x p) = false) (ha : PE X a (tE X.K .bw fa)) : PE X (.Compare a [inOp n] [.Name x p] pos) (tE X.K .ow (dInN n fa i)) :=
  peC (pe_cmpR (op_inA hu n) ha hn.pe hm) (e_cmp1 (op := inOp n) hu hm ha hn.eB) fun σ H Q ⟨H0, G0, G, ρ, d, ok, hf, q⟩ => by
    unfold dInN at hf
    split at hf
    · rename_i kvs ei
      obtain ⟨dk, e1, hf⟩ := Option.bind_eq_some_iff.mp hf
      obtain ⟨k, e2, hf⟩ := Option.map_eq_some_iff.mp hf
      subst hf
      exact .inl (inN_read ok ei e1 e2 fun H' G' s => q _ _ _ s (ow_bool _))
    · exact .inr ⟨H0, G0, G, ρ, d, ok, hf, q⟩
theorem t_inN {n : Bool} (hu : X.A.units + 65 < cLine) (hn : NmOk X i x) (hm : behindInMarks (inOp n) (.Name x p) = false) (ha : PE X a (tE X.K .bw fa)) : PT X (.Compare a [inOp n] [.Name x p] pos) (tT X.K (dT (dInN n fa i))) :=
  ptC (pt_cmpR (op_inA hu n) ha hn.pe hm) (t_cmp1 (op := inOp n) hu hm ha hn.eB) fun σ H Q ⟨H0, G0, G, ρ, k0, ok, hf, q⟩ => by
    have hf' := dT_eq hf
    unfold dInN at hf'
    split at hf'
    · rename_i kvs ei
      obtain ⟨dk, e1, hf'⟩ := Option.bind_eq_some_iff.mp hf'
      obtain ⟨k, e2, hf'⟩ := Option.map_eq_some_iff.mp hf'
      refine .inl (inN_read ok ei e1 e2 fun H' G' s => ⟨_, rfl, ?_⟩)
      have hf3 := PyData.bool.inj hf'
      rw [hf3]
      exact q _ _ s
    · refine .inr ⟨H0, G0, G, ρ, k0, ok, ?_, q⟩
      unfold dT
      have h2 : d2 (aCmp (inOp n)) fa (dVarB i) ρ = some (.bool k0) := hf'
      rw [h2]
def dItemsN (i : Nat) : Env → Option (List D) := fun ρ => match ρ[i]? with
  | some (some (.dic kvs)) => some (kvs.map (·.1))
  | _ => dItems (dVarB i) ρ
theorem i_n {pr : Bool} {tg : Expr} (hn : NmOk X i x) : PI X tg (.Name x p) (tI pr X.K .bw (dItemsN i)) :=
  piW (PI.or (piL (DN.pi_n hn.pe)) (i_seqB hn.eB)) fun σ H R ⟨H0, G0, G, ρ, items, ok, hf, q⟩ => by
    unfold dItemsN at hf
    split at hf
    · rename_i kvs ei
      cases hf
      obtain ⟨a, ep, xs, h1, h2, h3, h4, h5⟩ := dic_get ok ei
      exact .inl ⟨_, h1, a, ep, xs, rfl, h2, kvs.length, .inr (.inr ⟨a, ep, xs, h2, by rw [kv_len h3]; exact Nat.le_refl _⟩), fun hl => q _ _ _ (Step.refl ok.gh) (it_dic (fun H' G' hC _ _ => SameT.dk hC h2) h3 hl)⟩
    · exact .inr ⟨H0, G0, G, ρ, items, ok, hf, q⟩
def dNewD (i : Nat) : DenS := fun ρ => some (.next (ρ.set i (some (.dic []))))
theorem s_newD (hN : X.N.Nodup) (hi : X.N[i]? = some x) (hx : Loc X.env.scope x) (hf : X.fn x = true ∨ X.env.scope.names.lookup x = some .local) : PS X (.Assign [.Name x p'] (.Dict [] [] pos) sp) (tS X.K (dNewD i)) :=
  psW (ps_set hN hi hx DN.pe_nnew (by rfl) hf) fun Dn σ H ⟨H0, G0, G, ρ, out, ok, hf, q⟩ => by
    cases hf
    exact fun n hn => q _ _ _ (Same.refl _) (ok.set_dic (Step.new' ok.gh hn) hn upd_same (ok.gh.free hn) .nil)
def dPutN (i : Nat) (g f : Den) : DenS := fun ρ => match ρ[i]? with
  | some (some (.dic kvs)) => (f ρ).bind fun v => (g ρ).bind fun d => (keyT d).bind fun k => if kvs.length < sizeLine then some (.next (ρ.set i (some (.dic (putKV kvs k d v))))) else none
  | _ => none
theorem s_putN (hu : X.A.units + 65 < cLine) (hn : NmOk X i x) (hg : PE X c (tE X.K .fz g)) (he : PE X e (tE X.K .fz f)) : PS X (.Assign [.Subscript (.Name x p) c apos] e sp) (tS X.K (dPutN i g f)) :=
  psW (DN.ps_nput (by omega) hn.pe hg he (by cases e <;> rfl)) fun Dn σ H ⟨H0, G0, G, ρ, out, ok, hf, q⟩ => by
    unfold dPutN at hf
    split at hf
    · rename_i kvs ei
      obtain ⟨v, e1, hf⟩ := Option.bind_eq_some_iff.mp hf
      obtain ⟨d, e2, hf⟩ := Option.bind_eq_some_iff.mp hf
      obtain ⟨k, e3, hf⟩ := Option.bind_eq_some_iff.mp hf
      split at hf
      · rename_i hl
        cases hf
        obtain ⟨a, ep, xs, h1, h2, h3, h4, h5⟩ := dic_get ok ei
        refine ⟨H0, G0, G, ρ, v, ok, e1, fun w H1 G1 s1 r1 => ⟨_, h1, H0, G0, G1, ρ, d, ok.step s1, e2, fun y H2 G2 s2 r2 => ?_⟩⟩
        have s := s1.trans s2
        have r3 := h3.mono s.gg
        obtain ⟨⟨ds, rfl⟩, _, _⟩ := keyT_tup e3
        have r2' : Rp X.K G2 y (.tuple ds) := r2
        obtain ⟨b, rfl⟩ : ∃ b, y = .ref b := by cases r2' with | tup e r => exact ⟨_, rfl⟩
        have ha := s.same.dk h2
        have hg : G2 a = none := by rw [s.old a (some_ne h2)]; exact h4
        exact ⟨a, ep, xs, k, b, rfl, rfl, ha, kv_keys r3 s2.gh, key_ok r2' e3 s2.gh, by rw [kv_len h3]; exact hl, fun ep' => q _ _ _ s.gg ((ok.step s).mutD ei h1 ha hg h5 (kv_stored r3 e3 r2' (Rp.mono s2.gg r1)))⟩
      · cases hf
    · cases hf
def dPopN (i : Nat) (g : Den) : DenS := fun ρ => match ρ[i]? with
  | some (some (.dic kvs)) => (g ρ).bind fun d => (keyT d).bind fun k => (getKV kvs k).map fun _ => .next (ρ.set i (some (.dic (dropKV kvs k))))
  | _ => none
theorem s_popN (hu : X.A.units + 65 < cLine) (hn : NmOk X i x) (hl : (apos.endLine == pos.line) = true) (hs : isStar c = false) (hg : PE X c (tE X.K .fz g)) : PS X (.Expr (.Call (.Attribute (.Name x p) "pop" apos) [c] [] pos) sp) (tS X.K (dPopN i g)) :=
  psW (ps_expr (DN.pe_npop (by omega) hn.pe hg ⟨rfl, few1 hs, hl, by rw [st1 hs]; rfl⟩) rfl) fun Dn σ H ⟨H0, G0, G, ρ, out, ok, hf, q⟩ => by
    unfold dPopN at hf
    split at hf
    · rename_i kvs ei
      obtain ⟨d, e2, hf⟩ := Option.bind_eq_some_iff.mp hf
      obtain ⟨k, e3, hf⟩ := Option.bind_eq_some_iff.mp hf
      obtain ⟨v, e4, hf⟩ := Option.map_eq_some_iff.mp hf
      subst hf
      obtain ⟨a, ep, xs, h1, h2, h3, h4, h5⟩ := dic_get ok ei
      refine ⟨_, h1, a, ep, xs, rfl, h2, H0, G0, G, ρ, d, ok, e2, fun y H2 G2 s r2 => ?_⟩
      have r3 := h3.mono s.gg
      obtain ⟨⟨ds, rfl⟩, _, _⟩ := keyT_tup e3
      have r2' : Rp X.K G2 y (.tuple ds) := r2
      obtain ⟨b, rfl⟩ : ∃ b, y = .ref b := by cases r2' with | tup e r => exact ⟨_, rfl⟩
      have ha := s.same.dk h2
      have hg : G2 a = none := by rw [s.old a (some_ne h2)]; exact h4
      rcases kv_at (k := k) r3 with ⟨_, z⟩ | ⟨b', w, d', z1, z2, rw'⟩
      · rw [z] at e4; cases e4
      · exact ⟨a, ep, xs, k, b, rfl, rfl, ha, kv_keys r3 s.gh, key_ok r2' e3 s.gh, w, by rw [z1]; rfl, fun ep' => q _ _ _ s.gg ((ok.step s).mutD ei h1 ha hg h5 (kv_drop r3))⟩
    · cases hf
end
end PF
namespace PF
open PySem PySem.Spec PyProof.Rows L2 RZ
section
variable {X : Cx}
theorem reads_of {pins : List (Addr × Obj)} {σ : St} {H : Hp} {s : Shared} {xs : List V} {its : List Value} {ds : List D} (I : Inv X pins σ H s) (ha : DpAll X.K H xs ds) (rv : Vals xs its) (hc : PyData.canLayAll0 ds = true) :
    ∃ as, ReadsAll s.heap its ds as ∧ its.length = ds.length ∧ its.map (SeqAt.readOf s.heap) = ds := by
  obtain ⟨as, h4⟩ := Dp.readsAll I ds _ its ha rv
  exact ⟨as, h4, SeqAt.ReadsAll.length ds its as h4, SeqAt.readsAll_map ds its as hc h4⟩
def rIndexT (K : PySem.W.Frag) : V → List V → Hp → VK → Prop := fun x xs H Q => ∃ (a : Addr) (y : V) (d : D) (ds : List D) (j : Nat) (z : D), x = V.ref a ∧ xs = [y] ∧ Dp K H (V.ref a) (.tuple ds) ∧ Dp K H y d ∧
  SeqAt.shaped (.tuple ds) = true ∧ SeqAt.shaped d = true ∧ ds[j]? = some z ∧ PyData.eqv z d = true ∧ (∀ (m : Nat) (z' : D), m < j → ds[m]? = some z' → PyData.eqv z' d = false) ∧ Q (.int (j : Nat)) H
theorem mt_indexT (hu : X.A.units + 65 < cLine) : MtR X "tuple.index" (rIndexT X.K) := by
  intro pins s σ H x xs v us Q I rx rxs h
  obtain ⟨a, y, d, ds, j, z, rfl, rfl, hl, hy, sl, sd, hz, hzj, hno, q⟩ := h
  cases rx
  obtain ⟨uy, rfl, ry⟩ := rxs.one
  obtain ⟨bs, r1⟩ := Dp.reads I d y uy hy ry
  have hxs : PyData.canLayAll0 ds = true := SeqAt.canLay_of_shaped sl
  cases hl with
  | tup hs ha =>
    obtain ⟨its, rv, ⟨⟨cls, dd, data, sls⟩, ho, hc, n, hdt⟩, hlen⟩ := I.tuple hs
    simp only at hc hdt
    subst hc hdt
    obtain ⟨as, h4, hn, hmap⟩ := reads_of I ha rv hxs
    have hjl : j < its.length := by have := (List.getElem?_eq_some_iff.mp hz).1; omega
    have at_ : ∀ (m : Nat) (hm : m < its.toArray.size) (z' : D), ds[m]? = some z' → SeqAt.readOf s.heap its.toArray[m] = z' := fun m hm z' hz' => by
      have hml : m < its.length := by simpa using hm
      rw [← hmap, List.getElem?_map, List.getElem?_eq_getElem hml] at hz'
      simpa using hz'
    refine call_meets PySem.F.slot_tuple_index ⟨_, ho, rfl⟩ PySem.F.entry_tuple_index (PySem.F.args_tuple_index_2 _ _) (TI.tuple_indexAt a its.toArray n dd sls uy (fun u => PyData.eqv (SeqAt.readOf s.heap u) d) j (by simpa using hjl) ?_ fun m hm hmj => ?_)
      ⟨ho, SeqAt.items_eqAt (vs := its.toArray) (show ReadsAll s.heap its.toArray.toList ds as from h4) r1 hxs (SeqAt.canLay_of_shaped sd) (room_in_shaped sd hu), ⟨.int (j : Nat), H, I.tok _, ⟨_, rfl⟩, q⟩⟩
    · show PyData.eqv (SeqAt.readOf s.heap its.toArray[j]) d = true
      rw [at_ j (by simpa using hjl) z hz]
      exact hzj
    · have hz' : ds[m]? = some (ds[m]'(by simp at hm; omega)) := List.getElem?_eq_getElem _
      show PyData.eqv (SeqAt.readOf s.heap its.toArray[m]) d = false
      rw [at_ m hm _ hz']
      exact hno m _ hmj hz'
def rCount (K : PySem.W.Frag) (tp : Bool) : V → List V → Hp → VK → Prop := fun x xs H Q => ∃ (a : Addr) (y : V) (d : D) (ds : List D), x = V.ref a ∧ xs = [y] ∧ Dp K H (V.ref a) (if tp = true then .tuple ds else .list ds) ∧ Dp K H y d ∧
  PyData.canLayAll0 ds = true ∧ SeqAt.shaped d = true ∧ Q (.int ((ds.countP fun z => PyData.eqv z d : Nat) : Int)) H
theorem cnt_eq {h : Heap} {its : List Value} {ds : List D} {d : D} (e : its.map (SeqAt.readOf h) = ds) : its.countP (fun y => PyData.eqv (SeqAt.readOf h y) d) = ds.countP fun y => PyData.eqv y d := by
  rw [← e, List.countP_map]
  rfl
theorem mt_countT (hu : X.A.units + 65 < cLine) : MtR X "tuple.count" (rCount X.K true) := by
  intro pins s σ H x xs v us Q I rx rxs h
  obtain ⟨a, y, d, ds, rfl, rfl, hl, hy, hxs, sd, q⟩ := h
  cases rx
  obtain ⟨uy, rfl, ry⟩ := rxs.one
  obtain ⟨bs, r1⟩ := Dp.reads I d y uy hy ry
  rw [if_pos rfl] at hl
  cases hl with
  | tup hs ha =>
    obtain ⟨its, rv, ⟨⟨cls, dd, data, sls⟩, ho, hc, n, hdt⟩, hlen⟩ := I.tuple hs
    simp only at hc hdt
    subst hc hdt
    obtain ⟨as, h4, hn, hmap⟩ := reads_of I ha rv hxs
    refine call_meets PySem.F.slot_tuple_count ⟨_, ho, rfl⟩ PySem.F.entry_tuple_count (PySem.F.args_tuple_count_2 _ _) (SeqAt.tuple_countAt a its.toArray n dd sls uy fun u => PyData.eqv (SeqAt.readOf s.heap u) d)
      ⟨ho, SeqAt.items_eqAt (vs := its.toArray) (show ReadsAll s.heap its.toArray.toList ds as from h4) r1 hxs (SeqAt.canLay_of_shaped sd) (room_in_shaped sd hu), ⟨.int ((ds.countP fun z => PyData.eqv z d : Nat) : Int), H, I.tok _, ⟨s.toks, ?_⟩, q⟩⟩
    rw [← cnt_eq (d := d) hmap]
theorem mt_countL (hu : X.A.units + 65 < cLine) : MtR X "list.count" (rCount X.K false) := by
  intro pins s σ H x xs v us Q I rx rxs h
  obtain ⟨a, y, d, ds, rfl, rfl, hl, hy, hxs, sd, q⟩ := h
  cases rx
  obtain ⟨uy, rfl, ry⟩ := rxs.one
  obtain ⟨bs, r1⟩ := Dp.reads I d y uy hy ry
  rw [if_neg Bool.false_ne_true] at hl
  cases hl with
  | lst hs ha =>
    obtain ⟨its, rv, pl, hlen⟩ := I.list hs
    obtain ⟨⟨cls, dd, data, sls⟩, ho, hc, n, hdt⟩ := pl.isList
    simp only at hc hdt
    subst hc hdt
    obtain ⟨as, h4, hn, hmap⟩ := reads_of I ha rv hxs
    refine call_meets PySem.F.slot_list_count ⟨_, ho, rfl⟩ PySem.F.entry_list_count (PySem.F.args_list_count_2 _ _) (SeqAt.list_countAt a its.toArray n dd sls uy fun u => PyData.eqv (SeqAt.readOf s.heap u) d)
      ⟨ho, SeqAt.items_eqAt (vs := its.toArray) (show ReadsAll s.heap its.toArray.toList ds as from h4) r1 hxs (SeqAt.canLay_of_shaped sd) (room_in_shaped sd hu), ⟨.int ((ds.countP fun z => PyData.eqv z d : Nat) : Int), H, I.tok _, ⟨s.toks, ?_⟩, q⟩⟩
    rw [← cnt_eq (d := d) hmap]
def idxD (ds : List D) (d : D) : Option Nat := ds.findIdx? fun z => PyData.eqv z d
theorem idxD_eq {ds : List D} {d : D} {j : Nat} (h : idxD ds d = some j) : ∃ z, ds[j]? = some z ∧ PyData.eqv z d = true ∧ ∀ (m : Nat) (z' : D), m < j → ds[m]? = some z' → PyData.eqv z' d = false := by
  obtain ⟨h1, h2, h3⟩ := List.findIdx?_eq_some_iff_getElem.mp h
  refine ⟨ds[j], List.getElem?_eq_getElem h1, h2, fun m z' hm hz => ?_⟩
  obtain ⟨hm', e⟩ := List.getElem?_eq_some_iff.mp hz
  have := h3 m hm
  rw [e] at this
  simpa using this
def aIndex : D → D → Option D
  | .list ds, d => if SeqAt.shaped d = true ∧ SeqAt.shaped (.list ds) = true then (idxD ds d).map fun j => .int (j : Nat) else none
  | .tuple ds, d => if SeqAt.shaped d = true ∧ SeqAt.shaped (.tuple ds) = true then (idxD ds d).map fun j => .int (j : Nat) else none
  | _, _ => none
def aCount : D → D → Option D
  | .list ds, d => if SeqAt.shaped d = true ∧ SeqAt.shaped (.list ds) = true then some (.int ((ds.countP fun z => PyData.eqv z d : Nat) : Int)) else none
  | .tuple ds, d => if SeqAt.shaped d = true ∧ SeqAt.shaped (.tuple ds) = true then some (.int ((ds.countP fun z => PyData.eqv z d : Nat) : Int)) else none
  | _, _ => none
def tSqM (K : PySem.W.Frag) (rL rT : V → List V → Hp → VK → Prop) (to te : TE) : TE := fun σ H Q => to σ H fun x H1 => ∃ a xs, x = .ref a ∧
  ((SqL K H1 a xs ∧ te σ H1 fun y H2 => rL x [y] H2 Q) ∨ (TupG H1 a xs ∧ te σ H1 fun y H2 => rT x [y] H2 Q))
variable {o c : Expr} {g : Den} {i : Nat} {x name : Str} {p apos pos : Pos} {idL idT : String} {rL rT : V → List V → Hp → VK → Prop}
theorem pe_sqm {to te : TE} (sL : Slot "list" name idL) (tL : typeOf (.builtin idL) = pure (.type "method_descriptor")) (sT : Slot "tuple" name idT) (tT : typeOf (.builtin idT) = pure (.type "method_descriptor")) (mL : MtR X idL rL) (mT : MtR X idT rT)
    (ho : PE X o to) (hc : PE X c te) (hb : attributeBase o name X.env (eval o X.env) = eval o X.env) (hl : (apos.endLine == pos.line) = true) (hs : isStar c = false) : PE X (.Call (.Attribute o name apos) [c] [] pos) (tSqM X.K rL rT to te) := by
  refine ⟨fun pins s σ H Q I h => ?_⟩
  refine wpAny_Call_method_late hb (few1 hs) hl rfl (thn (ho.run pins s σ H _ I h) fun v s1 ⟨y, H1, I1, r1, a, xs, ey, q1⟩ => ?_)
  subst ey
  cases r1
  rcases q1 with ⟨hq, q⟩ | ⟨⟨ob, e1, e2⟩, q⟩
  · obtain ⟨its, _, pl, _⟩ := I1.list hq
    refine ⟨"list", idL, PySem.F.plainAttrs_list, sL, tL, pl.isList.typeIs, fun b e => ?_, ?_⟩
    · cases e
      obtain ⟨o', n, e, c', hd, _⟩ := pl
      exact ⟨o', e, hd⟩
    · rw [st1 hs]
      refine Calls.callWith_builtin rfl (Calls.evalArgs_plain ?_)
      have hA := (pa_cons hc pa_nil (st1 hs)).run pos pins s1 σ H1 (fun ys H2 => rL (.ref a) ys H2 Q) I1 q
      rw [st1 hs] at hA
      exact thn hA fun us s2 ⟨vs, H2, I2, r2, q2⟩ => mL pins s2 σ H2 (.ref a) vs (.ref a) us Q I2 rfl r2 q2
  · obtain ⟨g1, g2⟩ := I1.hok a _ e1
    obtain ⟨_, its, _, ob', g3, g4, _⟩ := g2
    refine ⟨"tuple", idT, PySem.F.plainAttrs_tuple, sT, tT, ⟨ob', g3, g4⟩, fun b e => ?_, ?_⟩
    · cases e
      exact ⟨ob, g1, e2⟩
    · rw [st1 hs]
      refine Calls.callWith_builtin rfl (Calls.evalArgs_plain ?_)
      have hA := (pa_cons hc pa_nil (st1 hs)).run pos pins s1 σ H1 (fun ys H2 => rT (.ref a) ys H2 Q) I1 q
      rw [st1 hs] at hA
      exact thn hA fun us s2 ⟨vs, H2, I2, r2, q2⟩ => mT pins s2 σ H2 (.ref a) vs (.ref a) us Q I2 rfl r2 q2
theorem sqm_read {ag : D → D → Option D} {f : Den} (hag : ∀ dx dy d, ag dx dy = some d → (∃ ds, dx = .list ds) ∨ ∃ ds, dx = .tuple ds) (hsh : ∀ dx dy d, ag dx dy = some d → SeqAt.shaped dx = true ∧ SeqAt.shaped dy = true)
    (hL : ∀ (a : Addr) (y : V) (ds : List D) (dy d : D) (H G : Hp) (Q : VK), ag (.list ds) dy = some d → Dp X.K H (.ref a) (.list ds) → Dp X.K H y dy → (∀ v, Rp X.K G v d → Q v H) → rL (.ref a) [y] H Q)
    (hT : ∀ (a : Addr) (y : V) (ds : List D) (dy d : D) (H G : Hp) (Q : VK), ag (.tuple ds) dy = some d → Dp X.K H (.ref a) (.tuple ds) → Dp X.K H y dy → (∀ v, Rp X.K G v d → Q v H) → rT (.ref a) [y] H Q)
    (hint : ∀ dx dy d, ag dx dy = some d → ∃ j, d = .int j)
    {σ : St} {H : Hp} {Q : VK} (h : tE X.K .ow (d2 ag f g) σ H Q) : tSqM X.K rL rT (tE X.K .bw f) (tE X.K .bw g) σ H Q := by
  obtain ⟨H0, G0, G, ρ, d, ok, hf, q⟩ := h
  obtain ⟨dx, dy, e1, e2, e3⟩ := d2_eq hf
  obtain ⟨s1', s2'⟩ := hsh _ _ _ e3
  obtain ⟨j, rfl⟩ := hint _ _ _ e3
  refine ⟨H0, G0, G, ρ, _, ok, e1, fun v H1 G1 s1 r1 => ?_⟩
  rcases hag _ _ _ e3 with ⟨ds, rfl⟩ | ⟨ds, rfl⟩
  · obtain ⟨a, vs, rfl, h1, rr⟩ := Rb.lst s1.gh r1
    refine ⟨a, vs, rfl, .inl ⟨.inl h1, H0, G0, G1, ρ, _, ok.step s1, e2, fun y H2 G2 s2 r2 => ?_⟩⟩
    exact hL a y ds dy _ H2 G2 Q e3 (Rb.dp s1' s2.gh (Rb.step r1 s2)) (Rb.dp s2' s2.gh r2) fun v rv => by
      cases rv
      exact q _ _ _ (s1.trans s2) (ow_int _)
  · obtain ⟨a, vs, rfl, h1, rr⟩ := Rb.tup r1
    refine ⟨a, vs, rfl, .inr ⟨tgM s1.gh h1, H0, G0, G1, ρ, _, ok.step s1, e2, fun y H2 G2 s2 r2 => ?_⟩⟩
    exact hT a y ds dy _ H2 G2 Q e3 (Rb.dp s1' s2.gh (Rb.step r1 s2)) (Rb.dp s2' s2.gh r2) fun v rv => by
      cases rv
      exact q _ _ _ (s1.trans s2) (ow_int _)
theorem aIndex_eq {dx dy d : D} (h : aIndex dx dy = some d) : SeqAt.shaped dx = true ∧ SeqAt.shaped dy = true ∧ ∃ ds j, (dx = .list ds ∨ dx = .tuple ds) ∧ idxD ds dy = some j ∧ d = .int (j : Nat) := by
  unfold aIndex at h
  split at h
  · split at h
    · obtain ⟨j, h1, h2⟩ := Option.map_eq_some_iff.mp h
      rename_i hs
      exact ⟨hs.2, hs.1, _, j, .inl rfl, h1, h2.symm⟩
    · cases h
  · split at h
    · obtain ⟨j, h1, h2⟩ := Option.map_eq_some_iff.mp h
      rename_i hs
      exact ⟨hs.2, hs.1, _, j, .inr rfl, h1, h2.symm⟩
    · cases h
  · cases h
theorem aCount_eq {dx dy d : D} (h : aCount dx dy = some d) : SeqAt.shaped dx = true ∧ SeqAt.shaped dy = true ∧ ∃ ds, (dx = .list ds ∨ dx = .tuple ds) ∧ d = .int ((ds.countP fun z => PyData.eqv z dy : Nat) : Int) := by
  unfold aCount at h
  split at h
  · split at h
    · rename_i hs
      cases h
      exact ⟨hs.2, hs.1, _, .inl rfl, rfl⟩
    · cases h
  · split at h
    · rename_i hs
      cases h
      exact ⟨hs.2, hs.1, _, .inr rfl, rfl⟩
    · cases h
  · cases h
theorem e_index (hu : X.A.units + 65 < cLine) (hn : NmOk X i x) (hl : (apos.endLine == pos.line) = true) (hs : isStar c = false) (hc : PE X c (tE X.K .bw g)) : PE X (.Call (.Attribute (.Name x p) "index" apos) [c] [] pos) (tE X.K .ow (d2 aIndex (dVarB i) g)) :=
  peW (pe_sqm PySem.F.slot_list_index PySem.F.type_list_index PySem.F.slot_tuple_index PySem.F.type_tuple_index (mt_indexD hu) (mt_indexT hu) hn.eB hc rfl hl hs) fun σ H Q h => by
    refine sqm_read (fun dx dy d e => ?_) (fun dx dy d e => ⟨(aIndex_eq e).1, (aIndex_eq e).2.1⟩) (fun a y ds dy d H G Q e r1 r2 q => ?_) (fun a y ds dy d H G Q e r1 r2 q => ?_) (fun dx dy d e => ?_) h
    · obtain ⟨_, _, ds, j, z | z, _⟩ := aIndex_eq e
      · exact .inl ⟨ds, z⟩
      · exact .inr ⟨ds, z⟩
    · obtain ⟨z1, z2, ds', j, z | z, hj, rfl⟩ := aIndex_eq e
      · cases z
        obtain ⟨w, w1, w2, w3⟩ := idxD_eq hj
        exact ⟨a, y, _, ds, j, w, rfl, rfl, r1, r2, z1, z2, w1, w2, w3, q _ (Rp.int _)⟩
      · cases z
    · obtain ⟨z1, z2, ds', j, z | z, hj, rfl⟩ := aIndex_eq e
      · cases z
      · cases z
        obtain ⟨w, w1, w2, w3⟩ := idxD_eq hj
        exact ⟨a, y, _, ds, j, w, rfl, rfl, r1, r2, z1, z2, w1, w2, w3, q _ (Rp.int _)⟩
    · obtain ⟨_, _, _, j, _, _, e⟩ := aIndex_eq e
      exact ⟨_, e⟩
theorem e_count (hu : X.A.units + 65 < cLine) (hn : NmOk X i x) (hl : (apos.endLine == pos.line) = true) (hs : isStar c = false) (hc : PE X c (tE X.K .bw g)) : PE X (.Call (.Attribute (.Name x p) "count" apos) [c] [] pos) (tE X.K .ow (d2 aCount (dVarB i) g)) :=
  peW (pe_sqm PySem.F.slot_list_count PySem.F.type_list_count PySem.F.slot_tuple_count PySem.F.type_tuple_count (mt_countL hu) (mt_countT hu) hn.eB hc rfl hl hs) fun σ H Q h => by
    refine sqm_read (fun dx dy d e => ?_) (fun dx dy d e => ⟨(aCount_eq e).1, (aCount_eq e).2.1⟩) (fun a y ds dy d H G Q e r1 r2 q => ?_) (fun a y ds dy d H G Q e r1 r2 q => ?_) (fun dx dy d e => ?_) h
    · obtain ⟨_, _, ds, z | z, _⟩ := aCount_eq e
      · exact .inl ⟨ds, z⟩
      · exact .inr ⟨ds, z⟩
    · obtain ⟨z1, z2, ds', z | z, rfl⟩ := aCount_eq e
      · cases z
        exact ⟨a, y, _, ds, rfl, rfl, r1, r2, SeqAt.canLay_of_shaped z1, z2, q _ (Rp.int _)⟩
      · cases z
    · obtain ⟨z1, z2, ds', z | z, rfl⟩ := aCount_eq e
      · cases z
      · cases z
        exact ⟨a, y, _, ds, rfl, rfl, r1, r2, SeqAt.canLay_of_shaped z1, z2, q _ (Rp.int _)⟩
    · obtain ⟨_, _, _, _, e⟩ := aCount_eq e
      exact ⟨_, e⟩
end
end PF
namespace DN
open PySem PySem.Spec PyProof.Rows L2
section
variable {X : Cx} {kx vx : Expr} {pos : Pos} {tk tv : TE}
def tNOne (tk tv : TE) : TE := fun σ H Q => ∀ D, H D = none → tk σ (upd H D (DK D 0 [])) fun y H1 => tv σ H1 fun z H2 => ∃ ep k b, y = .ref b ∧ H2 D = some (DK D ep []) ∧ KeyOk H2 k b ∧ ∀ ep', Q (.ref D) (upd H2 D (DK D ep' [(k, b, z)]))
theorem pe_none (hu : X.A.units + 10 < cLine) (hk : PE X kx tk) (hv : PE X vx tv) : PE X (.Dict [some kx] [vx] pos) (tNOne tk tv) := by
  refine ⟨fun pins s σ H Q I h => ?_⟩
  have room : (nestedKind X.prog X.w).room X.A := by show X.A.units + 8 < cLine; omega
  generalize hD : s.heap.objs.size = D at *
  have hfr : H D = none := I.hok.fresh (Nat.le_of_eq hD)
  have hdk : DKp D 0 [] (s.heap.push { cls := .type "dict", data := .dict #[] }) := by rw [← hD]; exact new_dk I.big
  have I1 : Inv X pins σ (upd H D (DK D 0 [])) { s with heap := s.heap.push { cls := .type "dict", data := .dict #[] } } := I.laid (t' := s.toks) (fun b o e => Heap.get?_push_of_some _ e) (Nat.le_of_eq hD) hdk.obj
  have q0 := h D hfr
  rw [arm_eval_Dict]
  show wpAny (model X.prog X.w) X.A (standAt pos >>= fun _ => dictDisplay (List.map (fun p : Sem Value × Sem Value => (some p.1, p.2)) [((eval kx X.env : Sem Value), ((do let x ← eval vx X.env; standAt pos; pure x) : Sem Value))])) (EP X pins σ Q) X.xe s
  rw [dictDisplay_pairs _ (by simp) (by simp)]
  refine wpAny_bind (wpAny_standAt (wpAny_bind (wpAny_subDictH (knd := nestedKind X.prog X.w) room (show 1 ≤ 15 by decide) ?_)))
  refine evalPairs_cons (thn (hk.run pins _ σ _ _ I1 q0) fun kv s1 ⟨y, H1, I2, ry, q1⟩ => ?_)
  refine wpAny_bind (thn (hv.run pins s1 σ H1 _ I2 q1) fun vv s2 ⟨z, H2, I3, rz, q2⟩ => wpAny_bind (wpAny_standAt (wpAny_pure ?_)))
  obtain ⟨ep, k, b, ey, hd2, ok, q3⟩ := q2
  subst ey
  obtain rfl : kv = Value.ref b := ry
  obtain ⟨_, hdm, ys, rel, dd, _⟩ := dn_of I3.hok hd2 (fun x hx => by cases hx)
  have ey : ys = [] := by cases rel; rfl
  subst ey
  refine evalPairs_nil ⟨[(k, b, vv)], ⟨rfl, rfl, ok.is I3.hok, trivial⟩, by rw [hD]; exact dd, fun h' tk' dd' hs => wpAny_pure ?_⟩
  rw [hD] at dd' hs ⊢
  obtain ⟨q, es, ep', hq, h2, h3, h4, _, h5⟩ := dd'
  have rel' : Paired EnvR [(k, b, z)] [(k, b, vv)] := .cons ⟨rfl, rfl, rz⟩ .nil
  have hp : DKp D ep' [(k, b, z)] h' := ⟨hdm, by show 1 ≤ sizeLine; decide, by simp, q, es, hq, h2, h3, by rw [h4]; exact vals_ent (fun x hx => by rw [List.mem_singleton] at hx; subst hx; exact ok.1.plain) rel'⟩
  exact ⟨.ref D, _, d_write I3 (mut_dk hd2) hs ⟨q, hq⟩ hp.obj, rfl, q3 ep'⟩
end
end DN
namespace PF
open PySem PySem.Spec PyProof.Rows L2 RZ
section
variable {X : Cx} {a b c e : Expr} {fa fb f g : Den} {pos p p' apos sp kp : Pos} {i : Nat} {x : Str}
def dOneD (i : Nat) (g f : Den) : DenS := fun ρ => (g ρ).bind fun d => (f ρ).bind fun v => (keyT d).bind fun _ => some (.next (ρ.set i (some (.dic [(d, v)]))))
theorem s_oneD (hu : X.A.units + 65 < cLine) (hN : X.N.Nodup) (hi : X.N[i]? = some x) (hx : Loc X.env.scope x) (hf : X.fn x = true ∨ X.env.scope.names.lookup x = some .local) (hg : PE X c (tE X.K .fz g)) (he : PE X e (tE X.K .fz f)) : PS X (.Assign [.Name x p'] (.Dict [some c] [e] pos) sp) (tS X.K (dOneD i g f)) :=
  psW (ps_set hN hi hx (DN.pe_none (by omega) hg he) (by rfl) hf) fun Dn σ H ⟨H0, G0, G, ρ, out, ok, hf, q⟩ => by
    obtain ⟨d, e1, hf⟩ := Option.bind_eq_some_iff.mp hf
    obtain ⟨v, e2, hf⟩ := Option.bind_eq_some_iff.mp hf
    obtain ⟨k, e3, hf⟩ := Option.bind_eq_some_iff.mp hf
    cases hf
    intro D hD
    have s0 : Step X.K H G (upd H D (DN.DK D 0 [])) G := Step.new' ok.gh hD
    refine ⟨H0, G0, G, ρ, d, ok.step s0, e1, fun y H1 G1 s1 r1 => ⟨H0, G0, G1, ρ, v, (ok.step s0).step s1, e2, fun z H2 G2 s2 r2 => ?_⟩⟩
    obtain ⟨⟨ds, rfl⟩, _, _⟩ := keyT_tup e3
    have r1' : Rp X.K G2 y (.tuple ds) := Rp.mono s2.gg r1
    have gD : G2 D = none := ((s1.trans s2).old D (some_ne upd_same)).trans (ok.gh.free hD)
    cases r1' with
    | tup h1 rr =>
      refine ⟨0, k, _, rfl, (s1.trans s2).same.dk upd_same, key_ok (.tup h1 rr) e3 s2.gh, fun ep' => ?_⟩
      exact q _ _ _ ((s1.trans s2).gg) (ok.set_dic ((s0.trans (s1.trans s2)).updN hD gD (OwnN.dk ((s1.trans s2).same.dk upd_same))) hD upd_same gD (.cons e3 (.tup h1 rr) r2 .nil))
def rBestD (K : PySem.W.Frag) (m : D → List D → D) : List V → List V → Hp → VK → Prop := fun vs zs H Q => ∃ (p : Addr) (ys : List V) (ds : List D) (z : V), vs = [.ref p] ∧ zs = [z] ∧ (SqL K H p ys ∨ SqT K H p ys) ∧ DpAll K H ys ds ∧ PySem.W.AlikeAll ds ∧ PyData.depthAll ds ≤ 64 ∧
  (ds = [] → Q z H) ∧ ∀ d r, ds = d :: r → ∀ (i : Nat) v, ys[i]? = some v → ds[i]? = some (m d r) → Q v H
theorem cr_minDf (hc : X.calm = true) (hu : X.A.units + 66 < cLine) : CallRK X (.builtin "min") [Str.ofString "default"] (rBestD X.K PySem.W.minD) := by
  intro pins s σ H vs zs us ws Q I r rz h
  obtain ⟨p, ys, ds, z, rfl, rfl, hs, hp, ha, hd, q0, q⟩ := h
  obtain ⟨w1, rfl, rz'⟩ := vals1 rz
  rw [Vals.ref1 r]
  have fin : ∀ (its : List Value) (as : List Addr), Vals ys its → ReadsAll s.heap its ds as → ∀ (y : PyData) (r : List PyData) (i : Nat) v h' tk bs, ds = y :: r → its.toArray[i]? = some v → Reads h' v (PySem.W.minD y r) bs → (∀ b o, s.heap.get? b = some o → h'.get? b = some o) → EP X pins σ Q v { s with heap := h', toks := tk } := fun its as rv rr y r i v h' tk bs ey hv hr hk => by
    have hv' : its[i]? = some v := by simpa using hv
    obtain ⟨x, e1, e2⟩ := vals_back rv i v hv'
    obtain ⟨d', bs', e3, e4⟩ := reads_at rr i v hv'
    subst ey
    have e5 : d' = PySem.W.minD y r := PySem.W.alike_unique _ _ _ _ _ (ha.1 _ (List.mem_of_getElem? e3) _ (min_mem y r)) (PyProof.Rows.Reads.keeps hk e4) hr
    exact ⟨x, H, I.kept hk, e2, q _ _ rfl i x e1 (e5 ▸ e3)⟩
  rcases hs with hs | hs
  · obtain ⟨its, rv, hl, _⟩ := I.list hs
    obtain ⟨as, rr⟩ := Dp.readsAll I _ _ _ hp rv
    exact PySem.W.min_list_default (I.ok.hd hc) hl.isList (by simpa using rr) ha (by omega) (fun e h' tk hk => ⟨z, H, I.kept hk, rz', q0 e⟩) (fin its as rv rr)
  · obtain ⟨its, rv, hl, _⟩ := I.tuple hs
    obtain ⟨as, rr⟩ := Dp.readsAll I _ _ _ hp rv
    exact PySem.W.min_tuple_default (I.ok.hd hc) (show s.heap.IsTuple p its.toArray from hl) (by simpa using rr) ha (by omega) (fun e h' tk hk => ⟨z, H, I.kept hk, rz', q0 e⟩) (fin its as rv rr)
theorem cr_maxDf (hc : X.calm = true) (hu : X.A.units + 66 < cLine) : CallRK X (.builtin "max") [Str.ofString "default"] (rBestD X.K PySem.W.maxD) := by
  intro pins s σ H vs zs us ws Q I r rz h
  obtain ⟨p, ys, ds, z, rfl, rfl, hs, hp, ha, hd, q0, q⟩ := h
  obtain ⟨w1, rfl, rz'⟩ := vals1 rz
  rw [Vals.ref1 r]
  have fin : ∀ (its : List Value) (as : List Addr), Vals ys its → ReadsAll s.heap its ds as → ∀ (y : PyData) (r : List PyData) (i : Nat) v h' tk bs, ds = y :: r → its.toArray[i]? = some v → Reads h' v (PySem.W.maxD y r) bs → (∀ b o, s.heap.get? b = some o → h'.get? b = some o) → EP X pins σ Q v { s with heap := h', toks := tk } := fun its as rv rr y r i v h' tk bs ey hv hr hk => by
    have hv' : its[i]? = some v := by simpa using hv
    obtain ⟨x, e1, e2⟩ := vals_back rv i v hv'
    obtain ⟨d', bs', e3, e4⟩ := reads_at rr i v hv'
    subst ey
    have e5 : d' = PySem.W.maxD y r := PySem.W.alike_unique _ _ _ _ _ (ha.1 _ (List.mem_of_getElem? e3) _ (max_mem y r)) (PyProof.Rows.Reads.keeps hk e4) hr
    exact ⟨x, H, I.kept hk, e2, q _ _ rfl i x e1 (e5 ▸ e3)⟩
  rcases hs with hs | hs
  · obtain ⟨its, rv, hl, _⟩ := I.list hs
    obtain ⟨as, rr⟩ := Dp.readsAll I _ _ _ hp rv
    exact PySem.W.max_list_default (I.ok.hd hc) hl.isList (by simpa using rr) ha (by omega) (fun e h' tk hk => ⟨z, H, I.kept hk, rz', q0 e⟩) (fin its as rv rr)
  · obtain ⟨its, rv, hl, _⟩ := I.tuple hs
    obtain ⟨as, rr⟩ := Dp.readsAll I _ _ _ hp rv
    exact PySem.W.max_tuple_default (I.ok.hd hc) (show s.heap.IsTuple p its.toArray from hl) (by simpa using rr) ha (by omega) (fun e h' tk hk => ⟨z, H, I.kept hk, rz', q0 e⟩) (fin its as rv rr)
def aBestD (m : D → List D → D) : D → D → Option D
  | .list [], .int j => some (.int j)
  | .list (x :: xs), .int _ => if bestOk x xs (m x xs) = true then some (m x xs) else none
  | _, _ => none
theorem best_read {m : D → List D → D} (hm : ∀ x xs, m x xs ∈ x :: xs) {σ : St} {H : Hp} {Q : VK} (h : tE X.K .ow (d2 (aBestD m) fa fb) σ H Q) : tCKw (rBestD X.K m) (tCons (tE X.K .bw fa) tNil) (tCons (tE X.K .bw fb) tNil) σ H Q := by
  obtain ⟨H0, G0, G, ρ, d, ok, hf, q⟩ := h
  obtain ⟨dx, dy, e1, e2, e3⟩ := d2_eq hf
  refine ⟨H0, G0, G, ρ, _, ok, e1, fun v H1 G1 s1 r1 => ⟨H0, G0, G1, ρ, _, ok.step s1, e2, fun u H2 G2 s2 r2 => ?_⟩⟩
  have r1' := Rb.step r1 s2
  unfold aBestD at e3
  split at e3
  · cases e3
    obtain ⟨a, vs, rfl, h1, rr⟩ := Rb.lst s2.gh r1'
    cases rr
    cases Rb.int r2
    exact ⟨a, [], [], _, rfl, rfl, .inl (.inl h1), .nil, ⟨fun _ h => by (cases h), fun _ h => by (cases h)⟩, by decide, fun _ => q _ _ _ (s1.trans s2) (ow_int _), fun _ _ h => by cases h⟩
  · rename_i x0 xs0 _
    split at e3
    · rename_i hb
      cases e3
      obtain ⟨a, vs, rfl, h1, rr⟩ := Rb.lst s2.gh r1'
      unfold bestOk at hb
      simp only [Bool.and_eq_true] at hb
      obtain ⟨⟨⟨b1, b2⟩, b3⟩, b4⟩ := hb
      obtain ⟨k1, k2⟩ := depthAll_of b1
      refine ⟨a, vs, _, _, rfl, rfl, .inl (.inl h1), (RpAll.mono s2.gh rr).dp k2, ⟨alikeB_eq b2, noN_eq b3⟩, k1, (fun h => by cases h), fun d r er i w hv hd => ?_⟩
      cases er
      obtain ⟨v', z1, z2⟩ := rr.get i hd
      rw [hv] at z1
      cases z1
      refine q w H2 G2 (s1.trans s2) ?_
      revert z2 b4
      cases m x0 xs0 with
      | list ys => intro h4; cases h4
      | _ => intro _ z2; exact z2
    · cases e3
  · cases e3
theorem e_minD (hc : X.calm = true) (hu : X.A.units + 66 < cLine) (gl : Gl X "min") (hm : X.mg "min" = none) (na : isStar a = false) (ha : PE X a (tE X.K .bw fa)) (hb : PE X b (tE X.K .bw fb)) : PE X (.Call (.Name "min" p) [a] [⟨some "default", b, kp⟩] pos) (tE X.K .ow (d2 (aBestD PySem.W.minD) fa fb)) :=
  peW (pe_callBK (cr_minDf hc hu) gl hm (by decide +kernel) (pa_cons ha pa_nil (st1 na)) (pk_cons hb pk_nil) (by decide) (by decide) (by rw [st1 na]; rfl) (by rw [st1 na]; rfl)) fun σ H Q h => best_read min_mem h
theorem e_maxD (hc : X.calm = true) (hu : X.A.units + 66 < cLine) (gl : Gl X "max") (hm : X.mg "max" = none) (na : isStar a = false) (ha : PE X a (tE X.K .bw fa)) (hb : PE X b (tE X.K .bw fb)) : PE X (.Call (.Name "max" p) [a] [⟨some "default", b, kp⟩] pos) (tE X.K .ow (d2 (aBestD PySem.W.maxD) fa fb)) :=
  peW (pe_callBK (cr_maxDf hc hu) gl hm (by decide +kernel) (pa_cons ha pa_nil (st1 na)) (pk_cons hb pk_nil) (by decide) (by decide) (by rw [st1 na]; rfl) (by rw [st1 na]; rfl)) fun σ H Q h => best_read max_mem h
end
end PF
namespace Z3
open PySem PySem.Spec PyProof.Rows L2
def It3 (K : PySem.W.Frag) (a b c : Addr) : It :=
  ⟨fun i H => ∃ (xs ys zs : List V) (x y z : V), SqL K H a xs ∧ SqL K H b ys ∧ SqL K H c zs ∧ xs[i]? = some x ∧ ys[i]? = some y ∧ zs[i]? = some z,
    fun i H v H' => ∃ T x y z, v = .ref T ∧ H T = none ∧ H' = upd H T (.tup [x, y, z]) ∧ (∀ xs, SqL K H a xs → xs[i]? = some x) ∧ (∀ ys, SqL K H b ys → ys[i]? = some y) ∧ ∀ zs, SqL K H c zs → zs[i]? = some z,
    fun i H => ∃ xs ys zs : List V, SqL K H a xs ∧ SqL K H b ys ∧ SqL K H c zs ∧ i ≤ xs.length ∧ i ≤ ys.length ∧ i ≤ zs.length ∧ (i = xs.length ∨ i = ys.length ∨ i = zs.length)⟩
structure Apt (n : Nat) (a b c : Addr) : Prop where
  a : a < n
  b : b < n
  c : c < n
abbrev Tn (n : Nat) (a b c : Addr) (i : Nat) (h : Heap) : Prop := IsZip h (n + 5) (n + 3) (n + 4) .none ∧ IsTupOf3 h (n + 3) (.ref n) (.ref (n + 1)) (.ref (n + 2)) ∧ (∃ x y z, IsTupOf3 h (n + 4) x y z) ∧ h.IsListIter n a i ∧ h.IsListIter (n + 1) b i ∧ h.IsListIter (n + 2) c i
theorem nin {n m x : Nat} (h1 : m ≠ n) (h2 : m ≠ x) : ¬m ∈ [n, x] := fun h => by
  rcases List.mem_cons.mp h with e | h
  · exact h1 e
  · exact h2 (List.mem_singleton.mp h)
theorem sep0 (n a b c : Nat) (h1 : a < n) (h2 : b < n) (h3 : c < n) : ZipSep3 (n + 5) (n + 3) (n + 4) n (n + 1) (n + 2) [n, a] [n + 1, b] [n + 2, c] where
  TIz := Nat.ne_of_lt (by omega)
  TOz := Nat.ne_of_lt (by omega)
  TITO := Nat.ne_of_lt (by omega)
  TIi1 := Nat.ne_of_gt (by omega)
  mem1 := List.mem_cons_self ..
  zf1 := nin (by omega) (by omega)
  Tf1 := nin (by omega) (by omega)
  TIi2 := Nat.ne_of_gt (by omega)
  mem2 := List.mem_cons_self ..
  zf2 := nin (by omega) (by omega)
  Tf2 := nin (by omega) (by omega)
  TIi3 := Nat.ne_of_gt (by omega)
  mem3 := List.mem_cons_self ..
  zf3 := nin (by omega) (by omega)
  Tf3 := nin (by omega) (by omega)
  sep1_2 := nin (by omega) (by omega)
  sep1_3 := nin (by omega) (by omega)
  sep2_1 := nin (by omega) (by omega)
  sep2_3 := nin (by omega) (by omega)
  sep3_1 := nin (by omega) (by omega)
  sep3_2 := nin (by omega) (by omega)
theorem sep (n : Nat) {a b c : Addr} (D : Apt n a b c) : ZipSep3 (n + 5) (n + 3) (n + 4) n (n + 1) (n + 2) [n, a] [n + 1, b] [n + 2, c] := sep0 n a b c D.a D.b D.c
theorem turn3 {P : Program} {w : World} {K : PySem.W.Frag} {elts : List Expr} {kk : Nat} {tpos : Pos} {n : Nat} {a b c : Addr} (D : Apt n a b c) :
    Turn P w K (.Tuple elts kk tpos) (It3 K a b c) [n + 5, n + 3, n + 4, n, n + 1, n + 2] (n + 5) (Tn n a b c) where
  mem := by simp
  obj := fun i h st q hq => by
    obtain ⟨hz, hT, ⟨x, y, z, hO⟩, ⟨o1, e1, _, d1⟩, ⟨o2, e2, _, d2⟩, ⟨o3, e3, _, d3⟩⟩ := st
    have e' : q = n + 5 ∨ q = n + 3 ∨ q = n + 4 ∨ q = n ∨ q = n + 1 ∨ q = n + 2 := by simpa using hq
    rcases e' with r | r | r | r | r | r <;> rw [r]
    · exact ⟨_, hz, fun v q => nomatch q⟩
    · exact ⟨_, hT, fun v q => nomatch q⟩
    · exact ⟨_, hO, fun v q => nomatch q⟩
    · exact ⟨o1, e1, fun v q => by rw [d1] at q; cases q⟩
    · exact ⟨o2, e2, fun v q => by rw [d2] at q; cases q⟩
    · exact ⟨o3, e3, fun v q => by rw [d3] at q; cases q⟩
  keep := fun i h h' st k => by
    obtain ⟨hz, hT, ⟨x, y, z, hO⟩, h1, h2, h3⟩ := st
    exact ⟨k _ (by simp) _ hz, k _ (by simp) _ hT, ⟨x, y, z, k _ (by simp) _ hO⟩, h1.at fun o q => k _ (by simp) o q, h2.at fun o q => k _ (by simp) o q, h3.at fun o q => k _ (by simp) o q⟩
  item := by
    intro X hP hw hK hc i pins s σ H E I hf st hg
    subst hP hw hK
    obtain ⟨hz, hT, ⟨x0, y0, z0, hO⟩, t1, t2, t3⟩ := st
    obtain ⟨xs, ys, zs, x, y, z, qx, qy, qz, hx, hy, hzz⟩ := hg
    obtain ⟨l1, v1, p1, _⟩ := I.list qx
    obtain ⟨l2, v2, p2, _⟩ := I.list qy
    obtain ⟨l3, v3, p3, _⟩ := I.list qz
    obtain ⟨u1, g1, r1⟩ := v1.get hx
    obtain ⟨u2, g2, r2⟩ := v2.get hy
    obtain ⟨u3, g3, r3⟩ := v3.get hzz
    have hd := I.ok.hd hc
    have D1 := Draws.list (prog := X.prog) (w := X.w) (A := X.A.in1) hd n a (Nat.ne_of_lt D.a) l1.toArray
    have D2 := Draws.list (prog := X.prog) (w := X.w) (A := X.A.in1) hd (n + 1) b (Nat.ne_of_lt (Nat.lt_succ_of_lt D.b)) l2.toArray
    have D3 := Draws.list (prog := X.prog) (w := X.w) (A := X.A.in1) hd (n + 2) c (Nat.ne_of_lt (Nat.lt_succ_of_lt (Nat.lt_succ_of_lt D.c))) l3.toArray
    have b1 : i < l1.toArray.size := by rw [List.size_toArray]; exact (List.getElem?_eq_some_iff.mp g1).1
    have b2 : i < l2.toArray.size := by rw [List.size_toArray]; exact (List.getElem?_eq_some_iff.mp g2).1
    have b3 : i < l3.toArray.size := by rw [List.size_toArray]; exact (List.getElem?_eq_some_iff.mp g3).1
    have hzl : n + 5 < s.heap.objs.size := Heap.lt_size hz
    refine wpAny_pyNext_zipD3_item (sep n D) D1 D2 D3 hz hT hO ⟨t1, p1.isList⟩ ⟨t2, p2.isList⟩ ⟨t3, p3.isList⟩ b1 b2 b3 fun y1 y2 y3 h' tk m1 m2 m3 z' O' s1 s2 s3 T' hsz hk => ?_
    have w1 : y1 = u1 := by rw [List.getElem?_toArray, g1] at m1; exact (Option.some.inj m1).symm
    have w2 : y2 = u2 := by rw [List.getElem?_toArray, g2] at m2; exact (Option.some.inj m2).symm
    have w3 : y3 = u3 := by rw [List.getElem?_toArray, g3] at m3; exact (Option.some.inj m3).symm
    subst w1 w2 w3
    refine ⟨_, rfl, wpAny_letOwnedTupleGo_zip (s := { s with heap := h', toks := tk }) z' fun h'' z'' sb => ?_⟩
    have hN : h''.get? s.heap.objs.size = some { cls := .type "tuple", data := .seq #[y1, y2, y3] } := (sb.2 _ (Nat.ne_of_gt hzl)).trans T'
    have new : ObjOk X.prog X.w (upd H s.heap.objs.size (.tup [x, y, z])) h'' s.heap.objs.size (.tup [x, y, z]) :=
      ⟨by show 3 ≤ sizeLine; decide, [y1, y2, y3], .cons r1 (.cons r2 (.cons r3 .nil)), ⟨_, hN, rfl, _, rfl⟩⟩
    have I1 : Inv X pins σ (upd H s.heap.objs.size (.tup [x, y, z])) { s with heap := h'', toks := tk } :=
      I.turnedNew (t' := tk) (ch := [n + 5, n + 3, n + 4, n, n + 1, n + 2]) (fun d o hb q => (sb.2 d (fun q' => hb (by simp [q']))).trans (hk d o (fun q' => hb (by simp [q'])) (fun q' => hb (by simp [q'])) (fun q' => hb (by simp [q'])) (fun q' => hb (by simp [q'])) (fun q' => hb (by simp [q'])) q)) hf (Nat.le_refl _) new
    have S := sep n D
    refine ⟨.ref s.heap.objs.size, _, I1, rfl, ⟨_, x, y, z, rfl, I.hok.fresh (Nat.le_refl _), rfl, fun l hl => by rw [I.list_inj hl qx]; exact hx, fun l hl => by rw [I.list_inj hl qy]; exact hy, fun l hl => by rw [I.list_inj hl qz]; exact hzz⟩, ⟨z'', ?_, ⟨y1, y2, y3, ?_⟩, ?_, ?_, ?_⟩, fun q hq => ?_⟩
    · exact (sb.2 _ S.TIz).trans (hk _ _ S.TIz S.TITO S.TIi1 S.TIi2 S.TIi3 hT)
    · exact (sb.2 _ S.TOz).trans O'
    · exact s1.1.at fun o q => (sb.2 _ (Ne.symm S.zi1)).trans q
    · exact s2.1.at fun o q => (sb.2 _ (Ne.symm S.zi2)).trans q
    · exact s3.1.at fun o q => (sb.2 _ (Ne.symm S.zi3)).trans q
    · have e' : q = n + 5 ∨ q = n + 3 ∨ q = n + 4 ∨ q = n ∨ q = n + 1 ∨ q = n + 2 := by simpa using hq
      have hlt : q < s.heap.objs.size := by
        rcases e' with r | r | r | r | r | r <;> rw [r]
        · exact hzl
        · exact Nat.lt_trans (Nat.lt_add_of_pos_right (k := 2) (by decide)) hzl
        · exact Nat.lt_trans (Nat.lt_add_of_pos_right (k := 1) (by decide)) hzl
        · exact Nat.lt_of_le_of_lt (Nat.le_add_right _ _) hzl
        · exact Nat.lt_trans (Nat.lt_add_of_pos_right (k := 4) (by decide)) hzl
        · exact Nat.lt_trans (Nat.lt_add_of_pos_right (k := 3) (by decide)) hzl
      rw [upd_ne (Nat.ne_of_lt hlt)]
      exact (hf q hq).1
  done := by
    intro X hP hw hK hc i pins s σ H E I hf st hg
    subst hP hw hK
    obtain ⟨hz, hT, ⟨x0, y0, z0, hO⟩, t1, t2, t3⟩ := st
    obtain ⟨xs, ys, zs, qx, qy, qz, k1, k2, k3, hend⟩ := hg
    obtain ⟨l1, v1, p1, _⟩ := I.list qx
    obtain ⟨l2, v2, p2, _⟩ := I.list qy
    obtain ⟨l3, v3, p3, _⟩ := I.list qz
    have hd := I.ok.hd hc
    have D1 := Draws.list (prog := X.prog) (w := X.w) (A := X.A.in1) hd n a (Nat.ne_of_lt D.a) l1.toArray
    have D2 := Draws.list (prog := X.prog) (w := X.w) (A := X.A.in1) hd (n + 1) b (Nat.ne_of_lt (Nat.lt_succ_of_lt D.b)) l2.toArray
    have D3 := Draws.list (prog := X.prog) (w := X.w) (A := X.A.in1) hd (n + 2) c (Nat.ne_of_lt (Nat.lt_succ_of_lt (Nat.lt_succ_of_lt D.c))) l3.toArray
    have e1 := v1.length
    have e2 := v2.length
    have e3 := v3.length
    exact wpAny_pyNext_zipD3_end (sep n D) D1 D2 D3 hz hT hO ⟨t1, p1.isList⟩ ⟨t2, p2.isList⟩ ⟨t3, p3.isList⟩ (by rw [List.size_toArray]; omega) (by rw [List.size_toArray]; omega) (by rw [List.size_toArray]; omega) (by rw [List.size_toArray, List.size_toArray, List.size_toArray]; omega) fun h' tk hk =>
      ⟨rfl, I.turnedL (t' := tk) (ch := [n + 5, n + 3, n + 4, n, n + 1, n + 2]) (fun d o hb q => hk d o (fun q' => hb (by simp [q'])) (fun q' => hb (by simp [q'])) (fun q' => hb (by simp [q'])) (fun q' => hb (by simp [q'])) (fun q' => hb (by simp [q'])) q) hf⟩
  self := fun A i s Q E st h => wpAny_pyIter_zip st.1 h
def iZip3 (K : PySem.W.Frag) (ta : TA) : TI := fun σ H R => ta σ H fun vs H1 => ∃ a b c xs ys zs, vs = [.ref a, .ref b, .ref c] ∧ SqL K H1 a xs ∧ SqL K H1 b ys ∧ SqL K H1 c zs ∧ R (It3 K a b c) H1
theorem pi_zip3 {X : Cx} {e e2 e3 : Expr} {ta : TA} {p pos tpos : Pos} {elts : List Expr} {kk : Nat} (hg : Gl X "zip") (hm : X.mg "zip" = none) (ha : PA X [e, e2, e3] ta)
    (hs : starEach [e, e2, e3] X.env = (false, eval e X.env) :: starEach [e2, e3] X.env) (hpl : (backTo pos (starEach [e2, e3] X.env)).any (·.1) = false) :
    PI X (.Tuple elts kk tpos) (.Call (.Name "zip" p) [e, e2, e3] [] pos) (iZip3 X.K ta) := by
  refine ⟨fun pins s σ H R I h => Call_ (ld_blt I hg hm PyProof.Rows.boot_zip (PyProof.Rows.callWith_type1 (thn (ha.run pos pins s σ H _ I h) fun us s1 ⟨vs, H1, I1, r1, q1⟩ => ?_) hs hpl))⟩
  obtain ⟨a, b, c, xs, ys, zs, ex, qx, qy, qz, q⟩ := q1
  subst ex
  cases r1 with
  | cons r rr =>
    cases rr with
    | cons r' rr =>
      cases rr with
      | cons r'' rr =>
        cases rr
        cases r
        cases r'
        cases r''
        obtain ⟨l1, v1, p1, _⟩ := I1.list qx
        obtain ⟨l2, v2, p2, _⟩ := I1.list qy
        obtain ⟨l3, v3, p3, _⟩ := I1.list qz
        refine zip_begins3 (begins_list a l1.toArray) (begins_list b l2.toArray) (begins_list c l3.toArray) p1.isList p2.isList p3.isList fun h' hz hT hO o1 o2 o3 hsz hk => wpAny_pyIter_zip hz ?_
        have I2 : Inv X pins σ H1 { s1 with heap := h' } := I1.kept (t' := s1.toks) hk
        refine ⟨s1.heap.objs.size + 5, _, _, _, H1, rfl, I2, turn3 ⟨p1.lt, p2.lt, p3.lt⟩, ⟨hz, hT, ⟨_, _, _, hO⟩, ⟨_, o1, rfl, rfl⟩, ⟨_, o2, rfl, rfl⟩, ⟨_, o3, rfl, rfl⟩⟩, fun d hd => ?_, q⟩
        have e' : d = s1.heap.objs.size + 5 ∨ d = s1.heap.objs.size + 3 ∨ d = s1.heap.objs.size + 4 ∨ d = s1.heap.objs.size ∨ d = s1.heap.objs.size + 1 ∨ d = s1.heap.objs.size + 2 := by simpa using hd
        have hle : s1.heap.objs.size ≤ d := by
          rcases e' with z | z | z | z | z | z <;> rw [z] <;> first | exact Nat.le_add_right _ _ | exact Nat.le_refl _
        exact I1.fpOk hle (I1.hok.fresh hle)
end Z3
namespace PF
open PySem PySem.Spec PyProof.Rows L2 RZ
def zip3D : List D → List D → List D → List D
  | x :: xs, y :: ys, z :: zs => .tuple [x, y, z] :: zip3D xs ys zs
  | _, _, _ => []
theorem zip3D_length : ∀ xs ys zs : List D, (zip3D xs ys zs).length = min (min xs.length ys.length) zs.length
  | [], _, _ => by simp [zip3D]
  | _ :: _, [], _ => by simp [zip3D]
  | _ :: _, _ :: _, [] => by simp [zip3D]
  | x :: xs, y :: ys, z :: zs => by simp [zip3D, zip3D_length xs ys zs]
theorem zip3D_get : ∀ (xs ys zs : List D) (i : Nat) {d : D}, (zip3D xs ys zs)[i]? = some d → ∃ x y z, xs[i]? = some x ∧ ys[i]? = some y ∧ zs[i]? = some z ∧ d = .tuple [x, y, z]
  | [], _, _, _, _, h => by simp [zip3D] at h
  | _ :: _, [], _, _, _, h => by simp [zip3D] at h
  | _ :: _, _ :: _, [], _, _, h => by simp [zip3D] at h
  | x :: xs, y :: ys, z :: zs, 0, d, h => by simp [zip3D] at h; exact ⟨x, y, z, rfl, rfl, rfl, h.symm⟩
  | x :: xs, y :: ys, z :: zs, i + 1, d, h => by
    obtain ⟨a, b, c, h1, h2, h3, h4⟩ := zip3D_get xs ys zs i (by simpa [zip3D] using h)
    exact ⟨a, b, c, by simpa using h1, by simpa using h2, by simpa using h3, h4⟩
def dZip3 (f g h : Den) : Env → Option (List D) := fun ρ => match f ρ, g ρ, h ρ with
  | some (.list xs), some (.list ys), some (.list zs) => some (zip3D xs ys zs)
  | _, _, _ => none
theorem trip_new {K : PySem.W.Frag} {H G : Hp} {T : Addr} {x y z : V} {dx dy dz : D} (gh : Same G H) (hT : H T = none) (r1 : Rp K G x dx) (r2 : Rp K G y dy) (r3 : Rp K G z dz) : ∃ G', Step K H G (upd H T (.tup [x, y, z])) G' ∧ RpW true K G' (.ref T) (.tuple [dx, dy, dz]) :=
  ⟨upd G T (.tup [x, y, z]), Step.new gh hT, .inr ⟨rfl, T, [x, y, z], [dx, dy, dz], rfl, rfl, .inl upd_same, RpAll.mono (same_new (gh.free hT)) (.cons r1 (.cons r2 (.cons r3 .nil)))⟩⟩
theorem it_zip3L {K : PySem.W.Frag} {G : Hp} {C : Hp → Prop} {a b c : Addr} {vs us ws : List V} {ds es fs : List D} (h : ∀ H G', C H → Same G G' → Same G' H → Rd H a (.lst vs)) (r : RpAll K G vs ds) (h' : ∀ H G', C H → Same G G' → Same G' H → Rd H b (.lst us)) (r' : RpAll K G us es)
    (h'' : ∀ H G', C H → Same G G' → Same G' H → Rd H c (.lst ws)) (r'' : RpAll K G ws fs) (hl : ds.length ≤ sizeLine) : ItOk true K G C (Z3.It3 K a b c) (zip3D ds es fs) where
  len := by rw [zip3D_length]; omega
  stop := fun H G' i hC g1 gh hi => by
    have q1 := r.length
    have q2 := r'.length
    have q3 := r''.length
    rw [zip3D_length] at hi
    exact ⟨vs, us, ws, .inl (h H G' hC g1 gh), .inl (h' H G' hC g1 gh), .inl (h'' H G' hC g1 gh), by omega, by omega, by omega, by omega⟩
  go := fun H G' i d hC g1 gh hi => by
    obtain ⟨x, y, z, h1, h2, h3, rfl⟩ := zip3D_get ds es fs i hi
    obtain ⟨v, q1, q2⟩ := r.get i h1
    obtain ⟨u, q3, q4⟩ := r'.get i h2
    obtain ⟨w, q5, q6⟩ := r''.get i h3
    refine ⟨⟨vs, us, ws, v, u, w, .inl (h H G' hC g1 gh), .inl (h' H G' hC g1 gh), .inl (h'' H G' hC g1 gh), q1, q3, q5⟩, fun z' H' ⟨T, x', y', w', e1, e2, e3, e4, e5, e6⟩ => ?_⟩
    subst e1 e3
    exact trip_new gh e2 ((r.atV h1 (e4 vs (.inl (h H G' hC g1 gh)))).mono g1) ((r'.atV h2 (e5 us (.inl (h' H G' hC g1 gh)))).mono g1) ((r''.atV h3 (e6 ws (.inl (h'' H G' hC g1 gh)))).mono g1)
theorem dZip3_eq {f g h : Den} {ρ : Env} {items : List D} (q : dZip3 f g h ρ = some items) : ∃ xs ys zs, items = zip3D xs ys zs ∧ f ρ = some (.list xs) ∧ g ρ = some (.list ys) ∧ h ρ = some (.list zs) := by
  unfold dZip3 at q
  split at q
  · cases q; exact ⟨_, _, _, rfl, by assumption, by assumption, by assumption⟩
  · cases q
section
variable {X : Cx} {a b c : Expr} {fa fb fc : Den} {pos p tpos : Pos} {elts : List Expr} {kk : Nat}
theorem i_zip3 (gl : Gl X "zip") (hm : X.mg "zip" = none) (na : isStar a = false) (nb : isStar b = false) (nc : isStar c = false) (ha : PE X a (tE X.K .fz fa)) (hb : PE X b (tE X.K .fz fb)) (hc : PE X c (tE X.K .fz fc)) :
    PI X (.Tuple elts kk tpos) (.Call (.Name "zip" p) [a, b, c] [] pos) (tI true X.K .fz (dZip3 fa fb fc)) :=
  piW (piL (Z3.pi_zip3 gl hm (pa_cons ha (pa_cons hb (pa_cons hc pa_nil (st1 nc)) (st1 nb)) (st1 na)) (st1 na) (back_ok _ _ _ (by simp [nb, nc])))) fun σ H R ⟨H0, G0, G, ρ, items, ok, hf, q⟩ => by
    obtain ⟨xs, ys, zs, rfl, e1, e2, e3⟩ := dZip3_eq hf
    refine ⟨H0, G0, G, ρ, _, ok, e1, fun v H1 G1 s r => ⟨H0, G0, G1, ρ, _, ok.step s, e2, fun u H2 G2 s2 r2 => ⟨H0, G0, G2, ρ, _, (ok.step s).step s2, e3, fun w H3 G3 s3 r3 => ?_⟩⟩⟩
    cases r with
    | lst h rr =>
      cases r2 with
      | lst h2 rr2 =>
        cases r3 with
        | lst h3 rr3 =>
          have k1 := rdM s3.gg (rdM s2.gg (.inl h))
          have k2 := rdM s3.gg (.inl h2)
          have l1 := (rr.mono s2.gg).mono s3.gg
          have l2 := rr2.mono s3.gg
          exact ⟨_, _, _, _, _, _, rfl, .inl (rdM s3.gh k1), .inl (rdM s3.gh k2), .inl (rdM s3.gh (.inl h3)), xs.length, .inl ⟨_, _, .inl (.inl (rdM s3.gh k1)), by rw [l1.length]; exact Nat.le_refl _⟩,
            fun hl => q _ _ _ ((s.trans s2).trans s3) (it_zip3L (fun H G' _ g1 gh => rdM (g1.trans gh) k1) l1 (fun H G' _ g1 gh => rdM (g1.trans gh) k2) l2 (fun H G' _ g1 gh => rdM (g1.trans gh) (.inl h3)) rr3 hl)⟩
theorem i_zip3B (gl : Gl X "zip") (hm : X.mg "zip" = none) (na : isStar a = false) (nb : isStar b = false) (nc : isStar c = false) (ha : PE X a (tE X.K .bw fa)) (hb : PE X b (tE X.K .bw fb)) (hc : PE X c (tE X.K .bw fc)) :
    PI X (.Tuple elts kk tpos) (.Call (.Name "zip" p) [a, b, c] [] pos) (tI true X.K .bw (dZip3 fa fb fc)) :=
  piW (piL (Z3.pi_zip3 gl hm (pa_cons ha (pa_cons hb (pa_cons hc pa_nil (st1 nc)) (st1 nb)) (st1 na)) (st1 na) (back_ok _ _ _ (by simp [nb, nc])))) fun σ H R ⟨H0, G0, G, ρ, items, ok, hf, q⟩ => by
    obtain ⟨xs, ys, zs, rfl, e1, e2, e3⟩ := dZip3_eq hf
    refine ⟨H0, G0, G, ρ, _, ok, e1, fun v H1 G1 s r => ⟨H0, G0, G1, ρ, _, ok.step s, e2, fun u H2 G2 s2 r2 => ⟨H0, G0, G2, ρ, _, (ok.step s).step s2, e3, fun w H3 G3 s3 r3 => ?_⟩⟩⟩
    obtain ⟨a, vs, rfl, h, rr⟩ := Rb.lst s3.gh (Rb.step (Rb.step r s2) s3)
    obtain ⟨b, us, rfl, h', rr'⟩ := Rb.lst s3.gh (Rb.step r2 s3)
    obtain ⟨c, ws, rfl, h'', rr''⟩ := Rb.lst s3.gh r3
    exact ⟨_, _, _, _, _, _, rfl, .inl h, .inl h', .inl h'', xs.length, .inl ⟨_, _, .inl (.inl h), by rw [rr.length]; exact Nat.le_refl _⟩,
      fun hl => q _ _ _ ((s.trans s2).trans s3) (it_zip3L (fun H G' hC g1 gh => rdT hC h (fun _ z => nomatch z)) rr (fun H G' hC g1 gh => rdT hC h' (fun _ z => nomatch z)) rr' (fun H G' hC g1 gh => rdT hC h'' (fun _ z => nomatch z)) rr'' hl)⟩
end
end PF
namespace PF
open PySem PySem.Spec PyProof.Rows L2 RZ
def bBool : List D → Option D
  | [.int i] => some (.bool (i != 0))
  | [.bool k] => some (.bool k)
  | _ => none
theorem cal_bool {K : PySem.W.Frag} : Cal K (fun xs H Q => (∃ i, xs = [.int i] ∧ Q (.bl (i != 0)) H) ∨ ∃ k, xs = [.bl k] ∧ Q (.bl k) H) bBool .ow := fun H G vs ds d Q gh r e q => by
  unfold bBool at e
  split at e
  · cases e
    obtain ⟨v, rfl, rv⟩ := paired1 r
    cases rv.int
    exact .inl ⟨_, rfl, q _ _ _ (Step.refl gh) (ow_bool _)⟩
  · cases e
    obtain ⟨v, rfl, rv⟩ := paired1 r
    cases rv.bool
    exact .inr ⟨_, rfl, q _ _ _ (Step.refl gh) (ow_bool _)⟩
  · cases e
end PF
namespace PF
open PySem PySem.Spec PyProof.Rows L2 RZ
def dLenN (i : Nat) : Den := fun ρ => match ρ[i]? with
  | some (some (.dic kvs)) => some (.int ((kvs.length : Nat) : Int))
  | _ => dCall bLen [dVarB i] ρ
theorem e_lenN {X : Cx} {i : Nat} {x : Str} {p p' pos : Pos} (hn : NmOk X i x) (gl : Gl X "len") (hm : X.mg "len" = none) (h1 : ("len" : Str) ≠ "__name__") (h2 : (("len" : Str) == ("__debug__" : Str)) = false) :
    PE X (.Call (.Name "len" p') [.Name x p] [] pos) (tE X.K .ow (dLenN i)) :=
  peC (pe_callB DN.call_lenN gl hm PySem.boot_len (pa_cons hn.pe pa_nil (st1 rfl)) h1 h2 (st1 rfl) (back_ok _ _ _ rfl)) (e_callB (call_len_seq.or call_len_str) cal_len gl hm PySem.boot_len h1 h2 rfl (ab_cons rfl hn.eB ab_nil)) fun σ H Q ⟨H0, G0, G, ρ, d, ok, hf, q⟩ => by
    unfold dLenN at hf
    split at hf
    · rename_i kvs ei
      cases hf
      obtain ⟨a, ep, xs, h1, h2, h3, h4, h5⟩ := dic_get ok ei
      refine .inl ⟨_, h1, a, ep, xs, rfl, h2, kv_keys h3 ok.gh, ?_⟩
      rw [kv_len h3]
      exact q _ _ _ (Step.refl ok.gh) (ow_int _)
    · exact .inr ⟨H0, G0, G, ρ, d, ok, hf, q⟩
end PF
namespace PF
open PySem PySem.Spec PyProof.Rows L2 RZ
def dDrop (f : Den) : DenS := fun ρ => (f ρ).map fun _ => .next ρ
theorem s_drop {X : Cx} {e : Expr} {f : Den} {pos : Pos} (hc : isComp e = false) (he : PE X e (tE X.K .fz f)) : PS X (.Expr e pos) (tS X.K (dDrop f)) :=
  psW (ps_expr he (swaps_no0 hc)) fun Dn σ H ⟨H0, G0, G, ρ, out, ok, hf, q⟩ => by
    unfold dDrop at hf
    obtain ⟨d, e1, e2⟩ := Option.map_eq_some_iff.mp hf
    cases e2
    exact ⟨H0, G0, G, ρ, d, ok, e1, fun v H1 G1 s r => q _ _ _ s.gg (ok.step s)⟩
end PF
namespace PF
open PySem PySem.Spec PyProof.Rows L2 RZ
abbrev Pr := Int × Int
def prK (p : Pr) : List Int := [p.1, p.2]
def prD (p : Pr) : D := .tuple [.int p.1, .int p.2]
def prC (p : Pr) : Int := p.1 * 64 + p.2
def prB (p : Pr) : Bool := decide (0 ≤ p.1) && decide (p.1 < 64) && decide (0 ≤ p.2) && decide (p.2 < 64)
def prOf : D → Option Pr
  | .tuple [.int a, .int b] => if prB (a, b) = true then some (a, b) else none
  | _ => none
def prsOf : List D → Option (List Pr)
  | [] => some []
  | d :: r => (prOf d).bind fun p => (prsOf r).map fun ps => p :: ps
def ddp : List Pr → List Pr
  | [] => []
  | p :: r => if p ∈ ddp r then ddp r else p :: ddp r
theorem ddp_mem {p : Pr} : ∀ {ps : List Pr}, p ∈ ddp ps ↔ p ∈ ps
  | [] => Iff.rfl
  | q :: r => by
    unfold ddp
    split
    · rename_i h
      rw [ddp_mem (ps := r), List.mem_cons]
      exact ⟨.inr, fun z => z.elim (fun e => e ▸ ddp_mem.mp h) id⟩
    · rw [List.mem_cons, List.mem_cons, ddp_mem (ps := r)]
theorem ddp_nd : ∀ ps : List Pr, (ddp ps).Nodup
  | [] => List.nodup_nil
  | q :: r => by
    unfold ddp
    split
    · exact ddp_nd r
    · exact List.nodup_cons.mpr ⟨by assumption, ddp_nd r⟩
def srtP (ps : List Pr) : List Pr := (ddp ps).mergeSort fun a b => decide (prC a ≤ prC b)
theorem prOf_eq {d : D} {p : Pr} (h : prOf d = some p) : d = prD p ∧ prB p = true := by
  unfold prOf at h
  split at h
  · split at h
    · cases h; exact ⟨rfl, by assumption⟩
    · cases h
  · cases h
theorem prsOf_eq : ∀ {ds : List D} {ps : List Pr}, prsOf ds = some ps → ds = ps.map prD ∧ ∀ p ∈ ps, prB p = true
  | [], _, h => by cases h; exact ⟨rfl, fun _ z => nomatch z⟩
  | d :: r, _, h => by
    unfold prsOf at h
    obtain ⟨p, h1, h⟩ := Option.bind_eq_some_iff.mp h
    obtain ⟨ps, h2, h3⟩ := Option.map_eq_some_iff.mp h
    cases h3
    obtain ⟨e1, b1⟩ := prOf_eq h1
    obtain ⟨e2, b2⟩ := prsOf_eq h2
    exact ⟨by rw [e1, e2]; rfl, fun q hq => (List.mem_cons.mp hq).elim (fun e => e ▸ b1) (b2 q)⟩
theorem prB_eq {p : Pr} (h : prB p = true) : (0 ≤ p.1 ∧ p.1 < 64) ∧ 0 ≤ p.2 ∧ p.2 < 64 := by
  unfold prB at h
  simp only [Bool.and_eq_true, decide_eq_true_eq] at h
  exact ⟨⟨h.1.1.1, h.1.1.2⟩, h.1.2, h.2⟩
theorem prC_code (p : Pr) : TS.code 64 (prK p) = prC p := code_pair p.1 p.2
theorem prC_inj {p q : Pr} (hp : prB p = true) (hq : prB q = true) (h : prC p = prC q) : p = q := by
  have a := prB_eq hp
  have b := prB_eq hq
  unfold prC at h
  exact Prod.ext (by omega) (by omega)
theorem srtP_mem {ps : List Pr} {p : Pr} : p ∈ srtP ps ↔ p ∈ ps := by
  unfold srtP
  rw [List.mem_mergeSort, ddp_mem]
theorem cells {K : PySem.W.Frag} {G : Hp} : ∀ {vs : List V} {ps : List Pr}, RpAll K G vs (ps.map prD) → ∃ ks : List (Addr × Pr), vs = ks.map (fun q => V.ref q.1) ∧ ks.map (·.2) = ps ∧ ∀ q ∈ ks, Rp K G (.ref q.1) (prD q.2)
  | [], [], _ => ⟨[], rfl, rfl, fun _ z => nomatch z⟩
  | v :: vs, p :: ps, r => by
    cases r with
    | cons r1 r2 =>
      obtain ⟨ks, e1, e2, h⟩ := cells r2
      obtain ⟨a, rfl⟩ : ∃ a, v = .ref a := by
        unfold prD at r1
        cases r1 with
        | tup e r => exact ⟨_, rfl⟩
      exact ⟨(a, p) :: ks, by rw [e1]; rfl, by rw [List.map_cons, e2], fun q hq => (List.mem_cons.mp hq).elim (fun e => e ▸ r1) (h q)⟩
theorem cell_sq {K : PySem.W.Frag} {H G : Hp} {a : Addr} {p : Pr} (gh : Same G H) (r : Rp K G (.ref a) (prD p)) : SqT K H a ((prK p).map V.int) := by
  unfold prD at r
  cases r with
  | tup e r =>
    cases r with
    | cons r1 r2 =>
      cases r2 with
      | cons r2 r3 =>
        cases r1
        cases r2
        cases r3
        exact .inl (rdM gh e.rd)
theorem pairs_rp {K : PySem.W.Frag} {G : Hp} : ∀ {L : List (Addr × Pr)}, (∀ q ∈ L, Rp K G (.ref q.1) (prD q.2)) → RpAll K G (L.map fun q => V.ref q.1) ((L.map (·.2)).map prD)
  | [], _ => .nil
  | q :: L, h => .cons (h q (List.mem_cons_self ..)) (pairs_rp fun r hr => h r (List.mem_cons_of_mem _ hr))
theorem back_pr {ks : List (Addr × Pr)} : ∀ {L : List (Addr × List Int)}, (∀ q ∈ L, q ∈ ks.map fun r => (r.1, prK r.2)) → ∃ M : List (Addr × Pr), L = M.map (fun r => (r.1, prK r.2)) ∧ ∀ r ∈ M, r ∈ ks
  | [], _ => ⟨[], rfl, fun _ z => nomatch z⟩
  | q :: L, h => by
    obtain ⟨M, e, hm⟩ := back_pr (L := L) fun r hr => h r (List.mem_cons_of_mem _ hr)
    obtain ⟨r, hr, e2⟩ := List.mem_map.mp (h q (List.mem_cons_self ..))
    exact ⟨r :: M, by rw [e, ← e2]; rfl, fun s hs => (List.mem_cons.mp hs).elim (fun e => e ▸ hr) (hm s)⟩
theorem prK_inj {p q : Pr} (h : prK p = prK q) : p = q := by
  unfold prK at h
  injection h with h1 h2
  injection h2 with h2 _
  exact Prod.ext h1 h2
theorem srtP_one {ps R : List Pr} (hb : ∀ p ∈ ps, prB p = true) (nd : R.Nodup) (hm : ∀ p, p ∈ R ↔ p ∈ ps) (hs : R.Pairwise fun a b => prC a ≤ prC b) : srtP ps = R := by
  have nd2 : (srtP ps).Nodup := by
    unfold srtP
    exact (List.mergeSort_perm _ _).nodup_iff.mpr (ddp_nd ps)
  refine List.Perm.eq_of_pairwise (le := fun a b => prC a ≤ prC b) (fun a b ha hb' h1 h2 => ?_) ?_ hs ((List.perm_ext_iff_of_nodup nd2 nd).mpr fun p => srtP_mem.trans (hm p).symm)
  · exact prC_inj (hb a (srtP_mem.mp ha)) (hb b ((hm b).mp hb')) (by omega)
  · have := List.pairwise_mergeSort (le := fun a b : Pr => decide (prC a ≤ prC b)) (fun a b c h1 h2 => by simp only [decide_eq_true_eq] at *; omega) (fun a b => by simp only [Bool.or_eq_true, decide_eq_true_eq]; omega) (ddp ps)
    exact this.imp fun h => of_decide_eq_true h
end PF
namespace ST
open PySem PySem.Spec PyProof.Rows L2
abbrev newS (w : World) : Obj := { cls := .type "set", dict := none, data := .set #[] 0 (.fresh 0 0 (!w.params.followText "set-order")) }
section
variable {P : Program} {w : World} {A : Around} {E : Value → Shared → Prop} {z : Shared}
theorem free_at {h : Heap} {b : Addr} (hb : h.objs.size ≤ b) : h.get? b = none := by
  cases q : h.get? b with
  | none => rfl
  | some o => exact absurd (Nat.lt_of_lt_of_le (Heap.lt_size q) hb) (Nat.lt_irrefl _)
theorem tup_loop {t0 : Addr} {its : Array Value} {cs : List (Addr × List Int)} (qh : A.handled = none) (qt : z.heap.IsTuple t0 its) (qi : its.toList = cs.map fun p => Value.ref p.1) (qk : ∀ p ∈ cs, IsT P w z.heap p.2 p.1) (qf : cs.length < 64) (qu : A.in1.units < cLine)
    {R : Result → Shared → Prop} (fin : ∀ h' tk L es ep t, SetTR P w h' z.heap.objs.size L es ep t → Got cs cs.length L → (∀ b o, z.heap.get? b = some o → h'.get? b = some o) → R (.ok (.ret .none)) { z with heap := h', toks := tk }) :
    codeAny (model P w) A (.builtin "set.update.loop" ⟨[.ref z.heap.objs.size, .ref (z.heap.objs.size + 1)], []⟩) R
      { z with heap := (z.heap.push (newS w)).push { cls := .type "tuple_iterator", data := .fields #[.ref t0, .int 0 0] } } := by
  have n1 : (z.heap.push (newS w)).objs.size = z.heap.objs.size + 1 := Heap.size_push ..
  obtain ⟨ob, hob, hcb⟩ := qt
  have hlt : t0 < z.heap.objs.size := Heap.lt_size hob
  have qt1 : (z.heap.push (newS w)).IsTuple t0 its := ⟨ob, Heap.get?_push_of_some _ hob, hcb⟩
  have qn : its.size = cs.length := by
    have q := congrArg List.length qi
    rwa [Array.length_toList, List.length_map] at q
  have walk := (Walks.tuple (prog := P) (w := w) (A := A.in1) qh (z.heap.objs.size + 1) t0 (Nat.ne_of_lt (Nat.lt_succ_of_lt hlt)) its).toS
  refine set_update_tups walk z.heap.objs.size ?_ cs qn qf (fun i v hv => ?_) z.heap qk (free_at (Nat.le_refl _)) (fun b hb => ?_) qu (its.size - 0) 0 _ (by omega) (Nat.zero_le _) ⟨?_, ?_⟩ (fun b o e => ?_) ⟨[], #[], 0, _, setTR_fresh ?_, Got.zero cs⟩ fun s' L es ep t hm hS g kp => ?_
  · intro hm
    rcases List.mem_cons.mp hm with e | e
    · exact absurd e (Nat.ne_of_lt (Nat.lt_succ_self _))
    · exact absurd (List.mem_singleton.mp e) (Nat.ne_of_gt hlt)
  · have q : its.toList[i]? = some v := by rw [Array.getElem?_toList]; exact hv
    rw [qi, List.getElem?_map] at q
    obtain ⟨p, hp, e⟩ := Option.map_eq_some_iff.mp q
    exact ⟨p, hp, e.symm⟩
  · rw [List.mem_singleton.mp hb]
    exact free_at (Nat.le_succ _)
  · exact ⟨_, by rw [← n1]; exact Heap.get?_push_size _ rfl, rfl, rfl⟩
  · exact qt1.push _
  · exact Heap.get?_push_of_some _ (Heap.get?_push_of_some _ e)
  · exact Heap.get?_push_of_some _ (Heap.get?_push_size _ rfl)
  · obtain ⟨h', g2, d2, tk, os2⟩ := s'
    have e1 : g2 = z.gens := hm.gens
    have e2 : d2 = z.drawn := hm.drawn
    have e3 : os2 = z.os := hm.os
    subst e1 e2 e3
    rw [qn] at g
    exact fin h' tk L es ep t hS g kp
set_option maxHeartbeats 8000000 in
theorem set_of_tups {t0 : Addr} {its : Array Value} {cs : List (Addr × List Int)} {Q : Value → Shared → Prop} (qh : A.handled = none) (qt : z.heap.IsTuple t0 its) (qi : its.toList = cs.map fun p => Value.ref p.1) (qk : ∀ p ∈ cs, IsT P w z.heap p.2 p.1) (qf : cs.length < 64) (qu : A.units + 3 < cLine)
    (fin : ∀ h' tk L es ep t, SetTR P w h' z.heap.objs.size L es ep t → Got cs cs.length L → (∀ b o, z.heap.get? b = some o → h'.get? b = some o) → Q (.ref z.heap.objs.size) { z with heap := h', toks := tk }) :
    wpAny (model P w) A (call (.type "set") [.ref t0]) Q E z := by
  obtain ⟨c0, r0, k0⟩ := F.called_set.mro
  have k1 := F.called_set.made
  have k2 := F.called_set.sub
  have k3 := F.called_set.notType
  have k4 := F.called_set.canCreate
  have k5 := F.typeCall_set_1 (.ref t0)
  refine wpAny_call (codeAny_of_tree ?_)
  show wpAny _ _ (callAny (.type "set") _) _ _ _
  refine wpAny_pure ⟨Code.quiet_builtin _ (by decide +kernel), ?_⟩
  refine codeAny_builtin F.entry_type_call ?_
  rw [Around.under_plain (weight_type_call_type "set" [.ref t0] []) rfl]
  repeat (any_goals (first | wp_step | assumption))
  refine codeAny_mono (code_set_led1 (.ref t0) (E := E) (Q₁ := fun v z1 => v = .ref z.heap.objs.size ∧ z1 = { z with heap := z.heap.push (newS w) }) ⟨rfl, rfl⟩) fun r z1 hr => ?_
  cases r with
  | error e => exact hr
  | ok fl =>
    cases fl with
    | ret v =>
      obtain ⟨rfl, rfl⟩ := hr
      have hN : (z.heap.push (newS w)).get? z.heap.objs.size = some (newS w) := Heap.get?_push_size _ rfl
      have hT : Shared.TypeIs { z with heap := z.heap.push (newS w) } (.ref z.heap.objs.size) "set" := ⟨_, hN, rfl⟩
      have k6 := F.called_set.init.lookup
      have k7 := F.called_set.init.bind (.ref z.heap.objs.size)
      repeat (any_goals (first | wp_step | assumption))
      refine codeAny_mono (codeAny_call_builtin (R := wants (fun r z2 => r = .none ∧ ∃ h' tk L es ep t, z2 = { z with heap := h', toks := tk } ∧ SetTR P w h' z.heap.objs.size L es ep t ∧ Got cs cs.length L ∧ (∀ b o, z.heap.get? b = some o → h'.get? b = some o)) E) F.called_set.init.plain F.entry_set_init (check_set_init_1 hT ?_)) fun r2 z2 h2 => ?_
      · have qt' := qt
        obtain ⟨ob, hob, hcb, nb, hdb⟩ := qt'
        obtain ⟨c1, d1, x1, s1⟩ := ob
        simp only at hcb hdb
        subst hcb
        subst hdb
        have hob' : (z.heap.push (newS w)).get? t0 = some { cls := .type "tuple", dict := d1, data := .seq its nb, slots := s1 } := Heap.get?_push_of_some _ hob
        have f1 := F.sub_tuple_set
        have f2 := F.sub_tuple_frozenset
        have f3 : (Value.type "tuple" == Value.type "dict") = false := by decide
        have qt1 : (z.heap.push (newS w)).IsTuple t0 its := ⟨_, hob', rfl, nb, rfl⟩
        unfold Builtin.«set.__init__»
        unfold noKeywords
        unfold Builtin.Frozenset.updateFrom
        generalize hI : pyIter = itr
        wp_walk
        subst hI
        refine wpAny_pyIter_tuple qt1 ?_
        refine wpAny_bind (wpAny_runValue ?_)
        have n1 : (z.heap.push (newS w)).objs.size = z.heap.objs.size + 1 := Heap.size_push ..
        show codeAny _ _ (.builtin "set.update.loop" ⟨[.ref z.heap.objs.size, .ref (z.heap.push (newS w)).objs.size], []⟩) _ _
        rw [n1]
        refine tup_loop (A := A.in1.in1) (z := z) (by simp [qh]) qt qi qk qf qu fun h' tk L es ep t a1 a2 a3 => ?_
        show wpAny _ _ _ _ _ _
        refine wpAny_pure ?_
        show wpAny _ _ (ret Value.none) _ _ _
        exact wpAny_pure ⟨rfl, h', tk, L, es, ep, t, rfl, a1, a2, a3⟩
      · cases r2 with
        | error e => exact h2
        | ok fl2 =>
          cases fl2 with
          | ret r =>
            obtain ⟨rfl, h', tk, L, es, ep, t, rfl, a1, a2, a3⟩ := h2
            repeat (any_goals (first | wp_step | assumption))
            exact fin h' tk L es ep t a1 a2 a3
          | _ => exact h2.elim
    | _ => exact hr.elim
end
end ST
namespace ST
open PySem PySem.Spec PyProof.Rows L2
section
variable {X : Cx}
def rSetTup (K : PySem.W.Frag) (P : Program) (w : World) : List V → Hp → VK → Prop := fun xs H Q => ∃ (l : Addr) (cs : List (Addr × List Int)), xs = [.ref l] ∧ SqT K H l (cs.map fun p => V.ref p.1) ∧ (∀ p ∈ cs, SqT K H p.1 (p.2.map V.int)) ∧ cs.length < 64 ∧
  ∀ a L, H a = none → (∀ p ∈ L, p ∈ cs) → (∀ p ∈ cs, p.2 ∈ L.map (·.2)) → Q (.ref a) (upd H a (SetTO P w a L))
theorem cr_setTup (hc : X.calm = true) (hu : X.A.units + 64 < cLine) : CallR X (.type "set") (rSetTup X.K X.prog X.w) := by
  intro pins z σ H xs us Q I r h
  obtain ⟨l, cs, rfl, hl, hk, hf, q⟩ := h
  rw [Vals.ref1 r]
  obtain ⟨its, rv, pl, hz⟩ := I.tuple hl
  have hn : H z.heap.objs.size = none := I.hok.fresh (Nat.le_refl _)
  refine set_of_tups (I.ok.hd hc) pl (by simpa using refs_of_vals rv) (fun p hp => I.isT (hk p hp)) hf (by omega) fun h' tk L es ep t R g k => ?_
  have sub : ∀ p ∈ L, p ∈ cs := fun p hp => List.mem_of_mem_take (g.sub p hp)
  have all : ∀ p ∈ cs, p.2 ∈ L.map (·.2) := fun p hp => g.all p (by rw [List.take_length]; exact hp)
  exact ⟨.ref z.heap.objs.size, upd H z.heap.objs.size (SetTO X.prog X.w z.heap.objs.size L), I.laid (t' := tk) k (Nat.le_refl _) (setTO_new R.t0), rfl, q _ L hn sub all⟩
def rLenS (K : PySem.W.Frag) (P : Program) (w : World) : List V → Hp → VK → Prop := fun vs H Q => ∃ (a : Addr) (L : List (Addr × List Int)), vs = [.ref a] ∧ H a = some (SetTO P w a L) ∧ (∀ p ∈ L, SqT K H p.1 (p.2.map V.int)) ∧ ((L.map (·.2)).Nodup → Q (.int ((L.length : Nat) : Int)) H)
theorem cr_lenS : CallR X (.builtin "len") (rLenS X.K X.prog X.w) := by
  intro pins z σ H vs us Q I r h
  obtain ⟨a, L, rfl, ha, hk, q⟩ := h
  have R0 : SetT0 X.prog X.w z.heap a L := (I.hok a _ ha).1
  obtain ⟨es, ep, t, R⟩ := R0.full fun p hp => I.isT (hk p hp)
  rw [Vals.ref1 r]
  obtain ⟨o, ho, hex, hd⟩ := R.ob
  have hs := R.size
  have hf := R.few
  refine call_len_set ho hex hd R.fits (by omega) ⟨.int ((L.length : Nat) : Int), H, I.tok _, ⟨_, by rw [hs]⟩, q R.nd⟩
def tLenI (K : PySem.W.Frag) (ta : TE) : TE := fun σ H Q => ta σ H fun x H1 => ∃ (l : Addr) (ns : List Int), x = V.ref l ∧ SqT K H1 l (ns.map V.int) ∧ ns.length < 64 ∧ ∀ c : Nat, (∀ ks : List Int, ks.Nodup → (∀ k, k ∈ ks ↔ k ∈ ns) → ks.length = c) → Q (.int (c : Nat)) H1
theorem pe_lenI {a : Expr} {ta : TE} {p p2 q pos : Pos} (hc : X.calm = true) (hg : Gl X "len") (hm : X.mg "len" = none) (hg2 : Gl X "set") (hm2 : X.mg "set" = none) (ha : PE X a ta) (na : PF.isStar a = false) :
    PE X (.Call (.Name "len" p) [.Call (.Name "set" p2) [a] [] q] [] pos) (tLenI X.K ta) := by
  refine ⟨fun pins z σ H Q I h => Call_ (ld_blt I hg hm PySem.boot_len (PyProof.Rows.callWith_builtin1 (PyProof.Rows.args_cons (Call_ (ld_blt I hg2 hm2 PyProof.Rows.boot_set (PyProof.Rows.callWith_type1 (PyProof.Rows.args_cons (thn (ha.run pins z σ H _ I h) fun v z1 ⟨x, H1, I1, r1, q1⟩ => PyProof.Rows.args_nil ?_) (PF.st1 na)) (PF.st1 na) rfl))) (PF.st1 rfl)) (PF.st1 rfl) rfl))⟩
  obtain ⟨l, ns, rfl, hq, hl, q1⟩ := q1
  cases r1
  obtain ⟨its, r, pl, hz⟩ := I1.tuple hq
  refine call_set_tupI ns (I1.ok.hd hc) pl (by simpa using r.ints) (by unfold scanBound; omega) fun h' tk c hS hcn hk => ?_
  refine PyProof.Rows.args_nil ?_
  obtain ⟨o, es, ep, t, ho, hex, hd, _, nd, mem, _, hf, hn, _⟩ := hS
  have I2 : Inv X pins σ H1 { z1 with heap := h', toks := tk } := I1.kept hk
  refine call_len_set ho hex hd hf (by rw [hn]; omega) ⟨.int ((c : Nat) : Int), H1, I2.tok _, ⟨_, by rw [hn]⟩, q1 c fun ks kn km => ?_⟩
  have pm : ks.Perm (es.toList.map keyOf) := (List.perm_ext_iff_of_nodup kn nd).mpr fun k => (km k).trans ((by simp : k ∈ ns ↔ decide (k ∈ ns) = true).trans (mem k))
  rw [pm.length_eq, List.length_map, Array.length_toList, hn]
end
end ST
namespace PF
def ddL {α : Type} [DecidableEq α] : List α → List α
  | [] => []
  | p :: r => if p ∈ ddL r then ddL r else p :: ddL r
theorem ddL_mem {α : Type} [DecidableEq α] {p : α} : ∀ {ps : List α}, p ∈ ddL ps ↔ p ∈ ps
  | [] => Iff.rfl
  | q :: r => by
    unfold ddL
    split
    · rename_i h
      rw [ddL_mem (ps := r), List.mem_cons]
      exact ⟨.inr, fun z => z.elim (fun e => e ▸ ddL_mem.mp h) id⟩
    · rw [List.mem_cons, List.mem_cons, ddL_mem (ps := r)]
theorem ddL_nd {α : Type} [DecidableEq α] : ∀ ps : List α, (ddL ps).Nodup
  | [] => List.nodup_nil
  | q :: r => by
    unfold ddL
    split
    · exact ddL_nd r
    · exact List.nodup_cons.mpr ⟨by assumption, ddL_nd r⟩
theorem ddL_len {α : Type} [DecidableEq α] {ks ns : List α} (nd : ks.Nodup) (hm : ∀ k, k ∈ ks ↔ k ∈ ns) : ks.length = (ddL ns).length :=
  ((List.perm_ext_iff_of_nodup nd (ddL_nd ns)).mpr fun k => (hm k).trans ddL_mem.symm).length_eq
theorem nd_short {α : Type} [DecidableEq α] : ∀ (l m : List α), l.Nodup → (∀ x ∈ l, x ∈ m) → l.length ≤ m.length
  | [], m, _, _ => Nat.zero_le _
  | a :: l, m, nd, h => by
    obtain ⟨n1, n2⟩ := List.nodup_cons.mp nd
    have ha := h a (List.mem_cons_self ..)
    have := nd_short l (m.erase a) n2 fun x hx => (List.mem_erase_of_ne (fun e : x = a => n1 (e ▸ hx))).mpr (h x (List.mem_cons_of_mem _ hx))
    rw [List.length_erase_of_mem ha] at this
    have := List.length_pos_of_mem ha
    rw [List.length_cons]
    omega
theorem ddL_le {α : Type} [DecidableEq α] {ks ns : List α} (nd : ks.Nodup) (hm : ∀ k ∈ ks, k ∈ ns) : ks.length ≤ (ddL ns).length :=
  nd_short ks (ddL ns) nd fun k hk => ddL_mem.mpr (hm k hk)
end PF
namespace ST
open PySem PySem.Spec PyProof.Rows L2
section
variable {P : Program} {w : World} {A : Around} {E : Value → Shared → Prop} {z : Shared}
theorem setR_few {h : Heap} {a : Addr} {S : Int → Bool} {c : Nat} {ns : List Int} (R : SetR w h a S c) (hs : ∀ k, S k = true → k ∈ ns) : c ≤ (PF.ddL ns).length := by
  obtain ⟨o, es, ep, t, _, _, _, _, nd, mem, _, _, hn, _⟩ := R
  have := PF.ddL_le nd (ns := ns) fun k hk => hs k ((mem k).mpr hk)
  rw [List.length_map, Array.length_toList, hn] at this
  exact this
theorem setR_card {h : Heap} {a : Addr} {c : Nat} {ns : List Int} (R : SetR w h a (fun j => decide (j ∈ ns)) c) : c = (PF.ddL ns).length := by
  obtain ⟨o, es, ep, t, _, _, _, _, nd, mem, _, _, hn, _⟩ := R
  have := PF.ddL_len nd (ns := ns) fun k => ((mem k).symm.trans (by simp))
  rw [List.length_map, Array.length_toList, hn] at this
  exact this
theorem ints_loop {It : Addr} {fp wr : List Addr} {G : Array GenState → Array GenState → Prop} {n : Nat} {Pv : Nat → Value → Prop} {St : Nat → Shared → Prop} {R : Result → Shared → Prop}
    (W : WalksS P w A.in1 It fp wr G n Pv St) (D : Addr) (nf : D ∉ fp) (ns : List Int) (en : n = ns.length) (few : (PF.ddL ns).length < 4000) (val : ∀ i v, Pv i v → ∃ k t, ns[i]? = some k ∧ v = .int k t) :
    ∀ (m i : Nat) (z : Shared), n - i = m → i ≤ n → St i z → (∃ c, SetR w z.heap D (fun j => decide (j ∈ ns.take i)) c) →
      (∀ z' c, Moved (D :: wr) G z z' → SetR w z'.heap D (fun j => decide (j ∈ ns)) c → R (.ok (.ret .none)) z') →
      codeAny (model P w) A (.builtin "set.update.loop" ⟨[.ref D, .ref It], []⟩) R z := by
  have nw : D ∉ wr := fun q => nf (W.sub _ q)
  have up : ∀ b ∈ wr, b ∈ D :: wr := fun b q => List.mem_cons_of_mem _ q
  intro m
  induction m with
  | zero =>
    intro i z e1 e2 st ⟨c, hS⟩ fin
    obtain rfl : i = n := by omega
    refine codeAny_builtin F.entry_set_update_loop ?_
    rw [Around.under_plainId F.plain_set_update_loop _]
    show wpAny _ A.in1 (pyNext (.ref It) >>= _) _ _ z
    refine wpAny_bind (W.done z _ _ st fun z' mv => ?_)
    show wpAny _ A.in1 (ret Value.none) _ _ z'
    rw [List.take_of_length_le (by omega)] at hS
    exact wpAny_pure (fin z' c (mv.mono up) (hS.at fun o q => mv.heap D o nw q))
  | succ m ih =>
    intro i z e1 e2 st ⟨c, hS⟩ fin
    have lt : i < n := by omega
    refine codeAny_builtin F.entry_set_update_loop ?_
    rw [Around.under_plainId F.plain_set_update_loop _]
    show wpAny _ A.in1 (pyNext (.ref It) >>= _) _ _ z
    refine wpAny_bind (W.item i z _ _ lt st fun v z' hP st' mv => ?_)
    obtain ⟨x, t, hx, rfl⟩ := val i v hP
    have hS1 : SetR w z'.heap D (fun j => decide (j ∈ ns.take i)) c := hS.at fun o q => mv.heap D o nw q
    have hc : c ≤ (PF.ddL ns).length := setR_few hS1 fun k hk => List.mem_of_mem_take (of_decide_eq_true hk)
    show wpAny _ A.in1 (holding [Value.int x t] (setAdd D (.int x t)) >>= _) _ _ z'
    refine wpAny_bind (wpAny_holding ?_)
    unfold setAdd
    refine wpAny_holding ?_
    refine wpAny_bind ((intKind P w).pyHash (k := x) (intKind_is _ _ _ _) ?_)
    refine setR_add_hashed (s := { z' with toks := z'.toks + 1 }) hS1 (by unfold scanBound; omega) fun h' sb hS2 => ?_
    have hS3 : SetR w h' D (fun j => decide (j ∈ ns.take (i + 1))) (if decide (x ∈ ns.take i) = true then c else c + 1) := hS2.congr fun j => by
      rw [List.take_add_one, hx]
      simp [List.mem_append]
    refine wpAny_pure ⟨plainId_quiet F.plain_set_update_loop _, ih (i + 1) _ (by omega) lt (W.frame _ z' _ _ st' (Nat.le_succ _) fun b q o e => ?_) ⟨_, hS3⟩ fun z2 c2 mv2 hS4 => ?_⟩
    · rw [sb.2 b (fun y : b = D => nf (by rw [← y]; exact q))]; exact e
    · refine fin z2 c2 (Moved.trans W.gtrans ((mv.mono up).then_heap (Nat.le_succ _) fun b o q e => ?_) mv2) hS4
      rw [sb.2 b (fun y : b = D => q (by rw [y]; exact List.mem_cons_self))]; exact e
set_option maxHeartbeats 8000000 in
theorem set_of_intsT {t0 : Addr} {its : Array Value} (ns : List Int) {Q : Value → Shared → Prop} (qh : A.handled = none) (qt : z.heap.IsTuple t0 its) (qi : IntsAre its.toList ns) (qf : (PF.ddL ns).length < 4000)
    (fin : ∀ (h' : Heap) (tk c : Nat), SetR w h' z.heap.objs.size (fun j => decide (j ∈ ns)) c → (∀ b o, z.heap.get? b = some o → h'.get? b = some o) → Q (.ref z.heap.objs.size) { z with heap := h', toks := tk }) :
    wpAny (model P w) A (call (.type "set") [.ref t0]) Q E z := by
  obtain ⟨c0, r0, k0⟩ := F.called_set.mro
  have k1 := F.called_set.made
  have k2 := F.called_set.sub
  have k3 := F.called_set.notType
  have k4 := F.called_set.canCreate
  have k5 := F.typeCall_set_1 (.ref t0)
  refine wpAny_call (codeAny_of_tree ?_)
  show wpAny _ _ (callAny (.type "set") _) _ _ _
  refine wpAny_pure ⟨Code.quiet_builtin _ (by decide +kernel), ?_⟩
  refine codeAny_builtin F.entry_type_call ?_
  rw [Around.under_plain (weight_type_call_type "set" [.ref t0] []) rfl]
  repeat (any_goals (first | wp_step | assumption))
  refine codeAny_mono (code_set_led1 (.ref t0) (E := E) (Q₁ := fun v z1 => v = .ref z.heap.objs.size ∧ z1 = { z with heap := z.heap.push (newS w) }) ⟨rfl, rfl⟩) fun r z1 hr => ?_
  cases r with
  | error e => exact hr
  | ok fl =>
    cases fl with
    | ret v =>
      obtain ⟨rfl, rfl⟩ := hr
      have hN : (z.heap.push (newS w)).get? z.heap.objs.size = some (newS w) := Heap.get?_push_size _ rfl
      have hT : Shared.TypeIs { z with heap := z.heap.push (newS w) } (.ref z.heap.objs.size) "set" := ⟨_, hN, rfl⟩
      have k6 := F.called_set.init.lookup
      have k7 := F.called_set.init.bind (.ref z.heap.objs.size)
      repeat (any_goals (first | wp_step | assumption))
      refine codeAny_mono (codeAny_call_builtin (R := wants (fun r z2 => r = .none ∧ ∃ h' tk c, z2 = { z with heap := h', toks := tk } ∧ SetR w h' z.heap.objs.size (fun j => decide (j ∈ ns)) c ∧ (∀ b o, z.heap.get? b = some o → h'.get? b = some o)) E) F.called_set.init.plain F.entry_set_init (check_set_init_1 hT ?_)) fun r2 z2 h2 => ?_
      · have qt' := qt
        obtain ⟨ob, hob, hcb, nb, hdb⟩ := qt'
        obtain ⟨c1, d1, x1, s1⟩ := ob
        simp only at hcb hdb
        subst hcb
        subst hdb
        have hob' : (z.heap.push (newS w)).get? t0 = some { cls := .type "tuple", dict := d1, data := .seq its nb, slots := s1 } := Heap.get?_push_of_some _ hob
        have f1 := F.sub_tuple_set
        have f2 := F.sub_tuple_frozenset
        have f3 : (Value.type "tuple" == Value.type "dict") = false := by decide
        have qt1 : (z.heap.push (newS w)).IsTuple t0 its := ⟨_, hob', rfl, nb, rfl⟩
        unfold Builtin.«set.__init__»
        unfold noKeywords
        unfold Builtin.Frozenset.updateFrom
        generalize hI : pyIter = itr
        wp_walk
        subst hI
        refine wpAny_pyIter_tuple qt1 ?_
        refine wpAny_bind (wpAny_runValue ?_)
        have n1 : (z.heap.push (newS w)).objs.size = z.heap.objs.size + 1 := Heap.size_push ..
        have hlt : t0 < z.heap.objs.size := Heap.lt_size hob
        show codeAny _ _ (.builtin "set.update.loop" ⟨[.ref z.heap.objs.size, .ref (z.heap.push (newS w)).objs.size], []⟩) _ _
        have qn : its.size = ns.length := by
          have q := IntsAre.length qi
          rw [Array.length_toList] at q
          exact q
        have walk := (Walks.tuple (prog := P) (w := w) (A := A.in1.in1.in1) (by simp [qh]) (z.heap.push (newS w)).objs.size t0 (by rw [n1]; exact Nat.ne_of_lt (Nat.lt_succ_of_lt hlt)) its).toS
        refine ints_loop walk z.heap.objs.size ?_ ns qn qf (fun i v hv => ?_) (its.size - 0) 0 _ (by omega) (Nat.zero_le _) ⟨⟨_, Heap.get?_push_size _ rfl, rfl, rfl⟩, qt1.push _⟩ ⟨0, setR_new_at (Heap.get?_push_of_some _ hN)⟩ fun s' c mv hS => ?_
        · intro hm
          rcases List.mem_cons.mp hm with e | e
          · rw [n1] at e
            exact absurd e (Nat.ne_of_lt (Nat.lt_succ_self _))
          · exact absurd (List.mem_singleton.mp e) (Nat.ne_of_gt hlt)
        · have hi : i < ns.length := by rw [← qn]; exact (Array.getElem?_eq_some_iff.mp hv).1
          obtain ⟨t, e⟩ := PyProof.Rows.IntsAre.int_at qi i v (by rw [Array.getElem?_toList]; exact hv)
          refine ⟨ns[i], t, List.getElem?_eq_getElem hi, ?_⟩
          rw [e, List.getD_eq_getElem?_getD, List.getElem?_eq_getElem hi] <;> rfl
        · obtain ⟨h', g2, d2, tk, os2⟩ := s'
          have e1 : g2 = z.gens := mv.gens
          have e2 : d2 = z.drawn := mv.drawn
          have e3 : os2 = z.os := mv.os
          subst e1 e2 e3
          show wpAny _ _ _ _ _ _
          refine wpAny_pure ?_
          show wpAny _ _ (ret Value.none) _ _ _
          refine wpAny_pure ⟨rfl, h', tk, c, rfl, hS, fun b o e => ?_⟩
          have b0 : b < z.heap.objs.size := Heap.lt_size e
          refine mv.heap b o (fun hm => ?_) (Heap.get?_push_of_some _ (Heap.get?_push_of_some _ e))
          rcases List.mem_cons.mp hm with y | y
          · exact absurd y (Nat.ne_of_lt b0)
          · rw [List.mem_singleton.mp y, n1] at b0
            exact absurd b0 (Nat.not_lt.mpr (Nat.le_succ _))
      · cases r2 with
        | error e => exact h2
        | ok fl2 =>
          cases fl2 with
          | ret r =>
            obtain ⟨rfl, h', tk, c, rfl, a1, a2⟩ := h2
            repeat (any_goals (first | wp_step | assumption))
            exact fin h' tk c a1 a2
          | _ => exact h2.elim
    | _ => exact hr.elim
set_option maxHeartbeats 8000000 in
theorem set_of_intsL {t0 : Addr} {its : Array Value} (ns : List Int) {Q : Value → Shared → Prop} (qh : A.handled = none) (qt : z.heap.IsList t0 its) (qi : IntsAre its.toList ns) (qf : (PF.ddL ns).length < 4000)
    (fin : ∀ (h' : Heap) (tk c : Nat), SetR w h' z.heap.objs.size (fun j => decide (j ∈ ns)) c → (∀ b o, z.heap.get? b = some o → h'.get? b = some o) → Q (.ref z.heap.objs.size) { z with heap := h', toks := tk }) :
    wpAny (model P w) A (call (.type "set") [.ref t0]) Q E z := by
  obtain ⟨c0, r0, k0⟩ := F.called_set.mro
  have k1 := F.called_set.made
  have k2 := F.called_set.sub
  have k3 := F.called_set.notType
  have k4 := F.called_set.canCreate
  have k5 := F.typeCall_set_1 (.ref t0)
  refine wpAny_call (codeAny_of_tree ?_)
  show wpAny _ _ (callAny (.type "set") _) _ _ _
  refine wpAny_pure ⟨Code.quiet_builtin _ (by decide +kernel), ?_⟩
  refine codeAny_builtin F.entry_type_call ?_
  rw [Around.under_plain (weight_type_call_type "set" [.ref t0] []) rfl]
  repeat (any_goals (first | wp_step | assumption))
  refine codeAny_mono (code_set_led1 (.ref t0) (E := E) (Q₁ := fun v z1 => v = .ref z.heap.objs.size ∧ z1 = { z with heap := z.heap.push (newS w) }) ⟨rfl, rfl⟩) fun r z1 hr => ?_
  cases r with
  | error e => exact hr
  | ok fl =>
    cases fl with
    | ret v =>
      obtain ⟨rfl, rfl⟩ := hr
      have hN : (z.heap.push (newS w)).get? z.heap.objs.size = some (newS w) := Heap.get?_push_size _ rfl
      have hT : Shared.TypeIs { z with heap := z.heap.push (newS w) } (.ref z.heap.objs.size) "set" := ⟨_, hN, rfl⟩
      have k6 := F.called_set.init.lookup
      have k7 := F.called_set.init.bind (.ref z.heap.objs.size)
      repeat (any_goals (first | wp_step | assumption))
      refine codeAny_mono (codeAny_call_builtin (R := wants (fun r z2 => r = .none ∧ ∃ h' tk c, z2 = { z with heap := h', toks := tk } ∧ SetR w h' z.heap.objs.size (fun j => decide (j ∈ ns)) c ∧ (∀ b o, z.heap.get? b = some o → h'.get? b = some o)) E) F.called_set.init.plain F.entry_set_init (check_set_init_1 hT ?_)) fun r2 z2 h2 => ?_
      · have qt' := qt
        obtain ⟨ob, hob, hcb, nb, hdb⟩ := qt'
        obtain ⟨c1, d1, x1, s1⟩ := ob
        simp only at hcb hdb
        subst hcb
        subst hdb
        have hob' : (z.heap.push (newS w)).get? t0 = some { cls := .type "list", dict := d1, data := .seq its nb, slots := s1 } := Heap.get?_push_of_some _ hob
        have f1 := F.sub_list_set
        have f2 := F.sub_list_frozenset
        have f3 : (Value.type "list" == Value.type "dict") = false := by decide
        have qt1 : (z.heap.push (newS w)).IsList t0 its := ⟨_, hob', rfl, nb, rfl⟩
        unfold Builtin.«set.__init__»
        unfold noKeywords
        unfold Builtin.Frozenset.updateFrom
        generalize hI : pyIter = itr
        wp_walk
        subst hI
        refine wpAny_pyIter_list qt1 ?_
        refine wpAny_bind (wpAny_runValue ?_)
        have n1 : (z.heap.push (newS w)).objs.size = z.heap.objs.size + 1 := Heap.size_push ..
        have hlt : t0 < z.heap.objs.size := Heap.lt_size hob
        show codeAny _ _ (.builtin "set.update.loop" ⟨[.ref z.heap.objs.size, .ref (z.heap.push (newS w)).objs.size], []⟩) _ _
        have qn : its.size = ns.length := by
          have q := IntsAre.length qi
          rw [Array.length_toList] at q
          exact q
        have walk := (Walks.list (prog := P) (w := w) (A := A.in1.in1.in1) (by simp [qh]) (z.heap.push (newS w)).objs.size t0 (by rw [n1]; exact Nat.ne_of_lt (Nat.lt_succ_of_lt hlt)) its).toS
        refine ints_loop walk z.heap.objs.size ?_ ns qn qf (fun i v hv => ?_) (its.size - 0) 0 _ (by omega) (Nat.zero_le _) ⟨⟨_, Heap.get?_push_size _ rfl, rfl, rfl⟩, qt1.push _⟩ ⟨0, setR_new_at (Heap.get?_push_of_some _ hN)⟩ fun s' c mv hS => ?_
        · intro hm
          rcases List.mem_cons.mp hm with e | e
          · rw [n1] at e
            exact absurd e (Nat.ne_of_lt (Nat.lt_succ_self _))
          · exact absurd (List.mem_singleton.mp e) (Nat.ne_of_gt hlt)
        · have hi : i < ns.length := by rw [← qn]; exact (Array.getElem?_eq_some_iff.mp hv).1
          obtain ⟨t, e⟩ := PyProof.Rows.IntsAre.int_at qi i v (by rw [Array.getElem?_toList]; exact hv)
          refine ⟨ns[i], t, List.getElem?_eq_getElem hi, ?_⟩
          rw [e, List.getD_eq_getElem?_getD, List.getElem?_eq_getElem hi] <;> rfl
        · obtain ⟨h', g2, d2, tk, os2⟩ := s'
          have e1 : g2 = z.gens := mv.gens
          have e2 : d2 = z.drawn := mv.drawn
          have e3 : os2 = z.os := mv.os
          subst e1 e2 e3
          show wpAny _ _ _ _ _ _
          refine wpAny_pure ?_
          show wpAny _ _ (ret Value.none) _ _ _
          refine wpAny_pure ⟨rfl, h', tk, c, rfl, hS, fun b o e => ?_⟩
          have b0 : b < z.heap.objs.size := Heap.lt_size e
          refine mv.heap b o (fun hm => ?_) (Heap.get?_push_of_some _ (Heap.get?_push_of_some _ e))
          rcases List.mem_cons.mp hm with y | y
          · exact absurd y (Nat.ne_of_lt b0)
          · rw [List.mem_singleton.mp y, n1] at b0
            exact absurd b0 (Nat.not_lt.mpr (Nat.le_succ _))
      · cases r2 with
        | error e => exact h2
        | ok fl2 =>
          cases fl2 with
          | ret r =>
            obtain ⟨rfl, h', tk, c, rfl, a1, a2⟩ := h2
            repeat (any_goals (first | wp_step | assumption))
            exact fin h' tk c a1 a2
          | _ => exact h2.elim
    | _ => exact hr.elim
end
section
variable {X : Cx}
def rSetI (K : PySem.W.Frag) (w : World) : List V → Hp → VK → Prop := fun xs H Q => ∃ (l : Addr) (ns : List Int), xs = [.ref l] ∧ (SqT K H l (ns.map V.int) ∨ SqL K H l (ns.map V.int)) ∧ (PF.ddL ns).length < 4000 ∧
  ∀ a, H a = none → Q (.ref a) (upd H a (SetO w a (fun j => decide (j ∈ ns)) (PF.ddL ns).length))
theorem cr_setI (hc : X.calm = true) : CallR X (.type "set") (rSetI X.K X.w) := by
  intro pins z σ H xs us Q I r h
  obtain ⟨l, ns, rfl, hl, hf, q⟩ := h
  rw [Vals.ref1 r]
  have hn : H z.heap.objs.size = none := I.hok.fresh (Nat.le_refl _)
  rcases hl with hl | hl
  · obtain ⟨its, rv, pl, hz⟩ := I.tuple hl
    refine set_of_intsT ns (I.ok.hd hc) pl (by simpa using rv.ints) hf fun h' tk c R k => ?_
    rw [setR_card R] at R
    exact ⟨.ref z.heap.objs.size, _, I.laid (t' := tk) k (Nat.le_refl _) (setO_new R), rfl, q _ hn⟩
  · obtain ⟨its, rv, pl, hz⟩ := I.list hl
    refine set_of_intsL ns (I.ok.hd hc) pl.isList (by simpa using rv.ints) hf fun h' tk c R k => ?_
    rw [setR_card R] at R
    exact ⟨.ref z.heap.objs.size, _, I.laid (t' := tk) k (Nat.le_refl _) (setO_new R), rfl, q _ hn⟩
def rLenI (w : World) : List V → Hp → VK → Prop := fun vs H Q => ∃ (a : Addr) (S : Int → Bool) (n : Nat), vs = [.ref a] ∧ H a = some (SetO w a S n) ∧ Q (.int ((n : Nat) : Int)) H
theorem cr_lenIS : CallR X (.builtin "len") (rLenI X.w) := by
  intro pins z σ H vs us Q I r h
  obtain ⟨a, S, n, rfl, ha, q⟩ := h
  obtain ⟨o, es, ep, t, ho, hex, hd, _, nd, mem, hb, hf, hn, _⟩ := setO_get I ha
  rw [Vals.ref1 r]
  refine call_len_set ho hex hd hf (by rw [hn]; rw [hn] at hb; unfold scanBound at hb; omega) ⟨.int ((n : Nat) : Int), H, I.tok _, ⟨_, by rw [hn]⟩, q⟩
end
end ST
namespace ST
open PySem PySem.Spec PyProof.Rows L2
def tK (k : List Int) : PyData := .tuple (k.map PyData.int)
theorem reads_ints {h : Heap} : ∀ {vs : List Value} {k : List Int}, IntsAre vs k → ReadsAll h vs (k.map PyData.int) []
  | _, _, .nil => .nil
  | _, _, .cons k t r => ReadsAll.cons (as := []) (bs := []) (.int k t) (reads_ints r)
theorem reads_tup {P : Program} {w : World} {h : Heap} {k : List Int} {b : Addr} (x : IsT P w h k b) : Reads h (.ref b) (tK k) [] := by
  obtain ⟨o, items, n, ho, hc, hd, hi⟩ := x
  exact .tuple ho hc hd (reads_ints (ints_of_items hi))
theorem dep_ints : ∀ k : List Int, PyData.depthAll (k.map PyData.int) = 0
  | [] => by simp [PyData.depthAll]
  | x :: xs => by
    rw [List.map_cons, PyData.depthAll, dep_ints xs]
    simp [PyData.depth]
theorem tK_dep (k : List Int) : (tK k).depth ≤ 1 := by
  unfold tK
  rw [PyData.depth, dep_ints]
  omega
theorem tK_alike (a b : List Int) : PySem.W.alike (tK a) (tK b) = true := by
  unfold tK
  rw [PySem.W.alike]
  exact PySem.W.alike_ints a b
theorem tK_le {β : Type} (x : β → List Int) : PySem.W.dataLe false (fun b => tK (x b)) = fun p q => decide (x p ≤ x q) := by
  funext p q
  show (!PySem.W.dataLt (.tuple ((x q).map .int)) (.tuple ((x p).map .int))) = _
  rw [PySem.W.dataLt_tuple]
  show (!PySem.W.rowLt ((x q).map .int) ((x p).map .int)) = _
  rw [PySem.W.dataLt_ints]
  by_cases h : x q < x p
  · have h' : ¬ x p ≤ x q := fun r => List.not_lt.mpr r h
    simp [h, h']
  · have h' : x p ≤ x q := List.not_lt.mp h
    simp [h, h']
section
variable {P : Program} {w : World} {A : Around} {s : Shared} {E : Value → Shared → Prop}
theorem each_refs {R : Value → Addr × List Int → Prop} : ∀ {L : List (Addr × List Int)}, (∀ q ∈ L, R (.ref q.1) q) → PySem.W.EachIs R (L.map fun q => Value.ref q.1) L
  | [], _ => .nil
  | q :: L, h => .cons (h q (List.mem_cons_self ..)) (each_refs fun r hr => h r (List.mem_cons_of_mem _ hr))
theorem refs_each : ∀ {vs : List Value} {L : List (Addr × List Int)}, PySem.W.EachIs (fun v q => v = Value.ref q.1) vs L → vs = L.map fun q => Value.ref q.1
  | _, _, .nil => rfl
  | _, _, .cons e t => by rw [e, refs_each t, List.map_cons]
theorem sorted_setK {a : Addr} {L : List (Addr × List Int)} {es : Array (Int × Value)} {ep : Nat} {t : SetTable} {Q : Value → Shared → Prop} (R : SetTR P w s.heap a L es ep t) (hh : A.handled = none) (hu : A.units + 8 < cLine)
    (hB : ∀ p ∈ L, p.2 ≠ [])
    (hQ : ∀ s' p (out : Array Value) (c : Nat) (L' : List (Addr × List Int)), (∀ b o, s.heap.get? b = some o → s'.heap.get? b = some o) → s'.gens = s.gens → s'.os = s.os → s.heap.objs.size ≤ p →
      s'.heap.get? p = some (seqObj "list" out c) → out.toList = L'.map (fun q => Value.ref q.1) → L'.Perm L → L'.Pairwise (fun q r => q.2 ≤ r.2) → Q (.ref p) s') :
    wpAny (model P w) A (call (.builtin "sorted") [.ref a]) Q E s := by
  obtain ⟨o, ho, hex, hd⟩ := R.ob
  have hsz := R.size
  have hfew := R.few
  refine Calls.call_function_entry kind_sorted plain_sorted entry_sorted (args_sorted1 _) ?_
  unfold Builtin.«sorted»
  refine wpAny_bind (m := checkCount "sorted" 1 1 _) (wpAny_pure ?_)
  refine wpAny_bind (collect_set (A := A.in1) hh ⟨o, ho, hex.1, hd⟩ R.fits (by unfold scanBound; omega) R.tab.ris R.led fun s1 vs k1 hz g1 o1 pm => ?_)
  have hes : es.toList.map (·.2) = L.map fun q => Value.ref q.1 := by
    rw [R.rows]
    unfold rowsOf
    rw [List.map_map] <;> rfl
  rw [hes] at pm
  have ord : ∀ vs : List Value, (∀ v ∈ vs, ∃ q ∈ L, v = Value.ref q.1) → ∃ L1 : List (Addr × List Int), vs = L1.map (fun q => Value.ref q.1) ∧ ∀ q ∈ L1, q ∈ L := by
    intro vs
    induction vs with
    | nil => intro _; exact ⟨[], rfl, fun q hq => (by cases hq)⟩
    | cons v vs ih =>
      intro hv
      obtain ⟨q, hq, e⟩ := hv v List.mem_cons_self
      obtain ⟨L1, e1, hs⟩ := ih fun u hu => hv u (List.mem_cons_of_mem _ hu)
      refine ⟨q :: L1, by rw [List.map_cons, e, e1], fun r hr => ?_⟩
      rcases List.mem_cons.mp hr with z | z
      · rw [z]; exact hq
      · exact hs r z
  have one : ∀ q ∈ L, ∀ r ∈ L, q.1 = r.1 → q = r := fun q hq r hr e => by
    have a1 := R.tup q hq
    have a2 := R.tup r hr
    rw [e] at a1
    have e2 : q.2 = r.2 := a1.inj a2
    exact Prod.ext e e2
  have perm_of : ∀ L1 : List (Addr × List Int), (∀ q ∈ L1, q ∈ L) → (L1.map (fun q => Value.ref q.1)).Perm (L.map fun q => Value.ref q.1) → L1.Perm L := by
    intro L1 hs pm1
    have nL : L.Nodup := L2.nodup_of_map R.nd
    have nref : (L.map fun q => Value.ref q.1).Nodup := by
      refine List.pairwise_map.mpr (List.Pairwise.imp_of_mem (fun {q r} hq hr hne e => ?_) nL)
      injection e with e
      exact hne (one q hq r hr e)
    have n1 : L1.Nodup := L2.nodup_of_map (pm1.nodup_iff.mpr nref)
    refine (List.perm_ext_iff_of_nodup n1 nL).mpr fun q => ⟨hs q, fun hq => ?_⟩
    have hm : Value.ref q.1 ∈ L1.map (fun q => Value.ref q.1) := pm1.mem_iff.mpr (List.mem_map.mpr ⟨q, hq, rfl⟩)
    obtain ⟨r, hr, e⟩ := List.mem_map.mp hm
    injection e with e
    rw [← one r (hs r hr) q hq e]
    exact hr
  obtain ⟨L1, ev, hL1⟩ := ord vs fun v hv => by
    obtain ⟨q, hq, e⟩ := List.mem_map.mp (pm.mem_iff.mp hv)
    exact ⟨q, hq, e.symm⟩
  have p1 : L1.Perm L := perm_of L1 hL1 (by rw [← ev]; exact pm)
  have hvl : vs.length < 64 := by rw [pm.length_eq, List.length_map]; exact hfew
  have hl1 : L1.length < 64 := by rw [p1.length_eq]; exact hfew
  refine wpAny_bind (wpAny_newList ?_ (by rw [sizeLine_eq]; omega))
  have hoL : (s1.heap.push (seqObj "list" vs.toArray 0)).get? s1.heap.objs.size = some (seqObj "list" vs.toArray 0) := Heap.get?_push_size _ rfl
  have tk : ∀ q ∈ L, Reads (s1.heap.push (seqObj "list" vs.toArray 0)) (.ref q.1) (tK q.2) [] := fun q hq => reads_tup (P := P) (w := w) (isT_keep (R.tup q hq) fun b u e => Heap.get?_push_of_some _ (k1 b u e))
  have hen : ∀ d ∈ L1.map (fun b : Addr × List Int => tK b.2), ∃ x r, d = PyData.tuple (x :: r) := fun d hd => by
    obtain ⟨b, hb, rfl⟩ := List.mem_map.mp hd
    have hne := hB b (hL1 b hb)
    unfold tK
    cases hk : b.2 with
    | nil => exact absurd hk hne
    | cons x r => exact ⟨_, _, rfl⟩
  refine wpAny_bind (wpAny_holding (PySem.W.list_sort_data (s := { s1 with heap := s1.heap.push (seqObj "list" vs.toArray 0) }) (R := fun v q => v = Value.ref q.1) (enc := fun b : Addr × List Int => tK b.2) (bs := L1) hoL (by rw [ev]; exact each_refs fun q _ => rfl) (by rw [ev]; exact each_refs fun q hq => ⟨[], by rw [← ev]; exact tk q (hL1 q hq), by simp⟩)
    (PySem.W.AllAlike.of fun b b' => tK_alike _ _) (.inl hen) (by rw [sizeLine_eq]; omega) (fun b _ => by
      have := tK_dep b.2
      show A.units + 1 + 1 + (tK b.2).depth < cLine
      omega) fun out _ a2 => ?_))
  have e2 := refs_each a2
  have a1 : out.Perm vs := by
    rw [e2, ev]
    exact (List.mergeSort_perm _ _).map _
  obtain ⟨c, hc⟩ := sortedHeap_at (vs := vs) (out := out.toArray) hoL
  have pw : (L1.mergeSort (PySem.W.dataLe false fun b : Addr × List Int => tK b.2)).Pairwise (fun q r => q.2 ≤ r.2) := by
    rw [tK_le (fun b : Addr × List Int => b.2)]
    have := List.pairwise_mergeSort (le := fun a b : Addr × List Int => decide (a.2 ≤ b.2)) (fun a b c h1 h2 => by simp only [decide_eq_true_eq] at *; exact List.le_trans h1 h2) (fun a b => by simp only [Bool.or_eq_true, decide_eq_true_eq]; exact List.le_total _ _) L1
    exact this.imp fun h => of_decide_eq_true h
  refine wpAny_pure ⟨_, rfl, hQ _ s1.heap.objs.size out.toArray c _ (fun b u e => ?_) g1 o1 hz hc (by rw [e2]) ((List.mergeSort_perm _ _).trans p1) pw⟩
  have q := k1 b u e
  have hlt := Heap.lt_size q
  show (sortedHeap (s1.heap.push (seqObj "list" vs.toArray 0)) s1.heap.objs.size vs out.toArray).get? b = some u
  rw [sortedHeap_old (Nat.ne_of_lt hlt) (by rw [size_push']; exact Nat.lt_succ_of_lt hlt)]
  exact Heap.get?_push_of_some _ q
def rSortedK (K : PySem.W.Frag) (P : Program) (w : World) : List V → Hp → VK → Prop := fun vs H Q => ∃ (a : Addr) (L : List (Addr × List Int)), vs = [V.ref a] ∧ H a = some (SetTO P w a L) ∧ (∀ p ∈ L, SqT K H p.1 (p.2.map V.int)) ∧ (∀ p ∈ L, p.2 ≠ []) ∧
  ∀ (L' : List (Addr × List Int)) (p : Addr), L'.Perm L → (L'.map (·.2)).Nodup → L'.length < 64 → L'.Pairwise (fun q r => q.2 ≤ r.2) → H p = none → Q (.ref p) (upd H p (.lst (L'.map fun q => V.ref q.1)))
theorem cr_sortedK {X : Cx} (hc : X.calm = true) (hu : X.A.units + 64 < cLine) : CallR X (.builtin "sorted") (rSortedK X.K X.prog X.w) := by
  intro pins s σ H vs us Q I r h
  obtain ⟨a, L, rfl, ha, hk, hB, q⟩ := h
  have R0 : SetT0 X.prog X.w s.heap a L := (I.hok a _ ha).1
  obtain ⟨es, ep, t, R⟩ := R0.full fun p hp => I.isT (hk p hp)
  rw [Vals.ref1 r]
  refine sorted_setK R (I.ok.hd hc) (by omega) hB fun s' p out c L' k g o hp hg hout pm pw => ?_
  have hfew : L'.length < 64 := by rw [pm.length_eq]; exact R.few
  have hlen : (L'.map fun q => V.ref q.1).length ≤ sizeLine := by rw [List.length_map, sizeLine_eq]; omega
  have hn : H p = none := I.hok.fresh hp
  have hv : Vals (L'.map fun q => V.ref q.1) out.toList := by rw [hout]; exact vals_of_refs L'
  have J : Inv X pins σ (upd H p (.lst (L'.map fun q => V.ref q.1))) { s with heap := s'.heap, gens := s'.gens, drawn := s'.drawn, toks := s'.toks } :=
    I.call (ch := []) (Un.laid k hp hn) (I.hok.laid k hp ⟨hlen, out.toList, c, hv, hg⟩) (by rw [g]; exact I.bare) (fun _ z => nomatch z)
  have e : s' = { s with heap := s'.heap, gens := s'.gens, drawn := s'.drawn, toks := s'.toks } := by
    cases s'
    cases s
    cases o
    rfl
  rw [e]
  exact ⟨.ref p, _, J, rfl, q L' p pm ((pm.map (·.2)).nodup_iff.mpr R.nd) hfew pw hn⟩
end
end ST
namespace PF
open PySem PySem.Spec PyProof.Rows L2 RZ
def srtI (ns : List Int) : List Int := (ddL ns).mergeSort fun a b => decide (a ≤ b)
def srtInts (ds : List D) : Option D := (intsOf ds).bind fun ns => if (ddL ns).length < 64 then some (.list ((srtI ns).map PyData.int)) else none
def srtSetL (ds : List D) : Option D := if ds.length < 64 then (match prsOf ds with
    | some ps => some (.list ((srtP ps).map prD))
    | none => srtInts ds) else srtInts ds
def kOf : D → Option (List Int)
  | .tuple ds => intsOf ds
  | _ => none
def ksOf : List D → Option (List (List Int))
  | [] => some []
  | d :: r => (kOf d).bind fun p => (ksOf r).map fun ps => p :: ps
def kD (k : List Int) : D := .tuple (k.map PyData.int)
theorem kOf_eq {d : D} {k : List Int} (h : kOf d = some k) : d = kD k := by
  unfold kOf at h
  split at h
  · unfold kD; rw [intsOf_eq h]
  · cases h
theorem ksOf_eq : ∀ {ds : List D} {ks : List (List Int)}, ksOf ds = some ks → ds = ks.map kD
  | [], _, h => by cases h; rfl
  | d :: r, _, h => by
    unfold ksOf at h
    obtain ⟨p, h1, h⟩ := Option.bind_eq_some_iff.mp h
    obtain ⟨ps, h2, h3⟩ := Option.map_eq_some_iff.mp h
    cases h3
    rw [kOf_eq h1, ksOf_eq h2]
    rfl
theorem cellsK {K : PySem.W.Frag} {G : Hp} : ∀ {vs : List V} {ks : List (List Int)}, RpAll K G vs (ks.map kD) → ∃ cs : List (Addr × List Int), vs = cs.map (fun q => V.ref q.1) ∧ cs.map (·.2) = ks ∧ ∀ q ∈ cs, Rp K G (.ref q.1) (kD q.2)
  | [], [], _ => ⟨[], rfl, rfl, fun _ z => nomatch z⟩
  | v :: vs, p :: ps, r => by
    cases r with
    | cons r1 r2 =>
      obtain ⟨ks, e1, e2, h⟩ := cellsK r2
      obtain ⟨a, rfl⟩ : ∃ a, v = .ref a := by
        unfold kD at r1
        cases r1 with
        | tup e r => exact ⟨_, rfl⟩
      exact ⟨(a, p) :: ks, by rw [e1]; rfl, by rw [List.map_cons, e2], fun q hq => (List.mem_cons.mp hq).elim (fun e => e ▸ r1) (h q)⟩
theorem cellK_sq {K : PySem.W.Frag} {H G : Hp} {a : Addr} {k : List Int} (gh : Same G H) (r : Rp K G (.ref a) (kD k)) : SqT K H a (k.map V.int) := by
  unfold kD at r
  cases r with
  | tup e r =>
    rw [r.ints] at e
    exact .inl (rdM gh e.rd)
def srtK (ks : List (List Int)) : List (List Int) := (ddL ks).mergeSort fun a b => decide (a ≤ b)
def srtKs (ds : List D) : Option D := if ds.length < 64 then (ksOf ds).bind fun ks => if ks.all (fun k => !k.isEmpty) = true then some (.list ((srtK ks).map kD)) else none else none
theorem srtKs_eq {ds : List D} {d : D} (h : srtKs ds = some d) : ∃ ks, ds.length < 64 ∧ ds = ks.map kD ∧ (∀ k ∈ ks, k ≠ []) ∧ d = .list ((srtK ks).map kD) := by
  unfold srtKs at h
  split at h
  · rename_i hl
    obtain ⟨ks, h1, h⟩ := Option.bind_eq_some_iff.mp h
    split at h
    · rename_i ha
      cases h
      refine ⟨ks, hl, ksOf_eq h1, fun k hk e => ?_, rfl⟩
      have := List.all_eq_true.mp ha k hk
      rw [e] at this
      cases this
    · cases h
  · cases h
theorem srtK_mem {ks : List (List Int)} {k : List Int} : k ∈ srtK ks ↔ k ∈ ks := by
  unfold srtK
  rw [List.mem_mergeSort, ddL_mem]
theorem srtK_pw (ks : List (List Int)) : (srtK ks).Pairwise (· ≤ ·) := by
  have := List.pairwise_mergeSort (le := fun a b : List Int => decide (a ≤ b)) (fun a b c h1 h2 => by simp only [decide_eq_true_eq] at *; exact List.le_trans h1 h2) (fun a b => by simp only [Bool.or_eq_true, decide_eq_true_eq]; exact List.le_total _ _) (ddL ks)
  exact this.imp fun h => of_decide_eq_true h
theorem srtK_nd (ks : List (List Int)) : (srtK ks).Nodup := (List.mergeSort_perm _ _).nodup_iff.mpr (ddL_nd ks)
theorem srtK_one {ks R : List (List Int)} (nd : R.Nodup) (hm : ∀ k, k ∈ R ↔ k ∈ ks) (hp : R.Pairwise (· ≤ ·)) : srtK ks = R :=
  List.Perm.eq_of_pairwise (le := fun a b : List Int => a ≤ b) (fun a b _ _ h1 h2 => List.le_antisymm h1 h2) (srtK_pw ks) hp ((List.perm_ext_iff_of_nodup (srtK_nd ks) nd).mpr fun p => srtK_mem.trans (hm p).symm)
theorem tups_rp {K : PySem.W.Frag} {G : Hp} : ∀ {L : List (Addr × List Int)}, (∀ q ∈ L, Rp K G (.ref q.1) (kD q.2)) → RpAll K G (L.map fun q => V.ref q.1) ((L.map (·.2)).map kD)
  | [], _ => .nil
  | q :: L, h => .cons (h q (List.mem_cons_self ..)) (tups_rp fun r hr => h r (List.mem_cons_of_mem _ hr))
theorem srtK_tail {X : Cx} {H0 G0 H1 G1 : Hp} {ks : List (List Int)} {cs : List (Addr × List Int)} {Q : VK} (hne : ∀ k ∈ ks, k ≠ []) (s : Step X.K H0 G0 H1 G1) (ek : cs.map (·.2) = ks) (hk : ∀ q ∈ cs, Rp X.K G1 (.ref q.1) (kD q.2))
    (qq : ∀ (v : V) (H' G' : Hp), Step X.K H0 G0 H' G' → Res X.K H0 H' G' v (.list ((srtK ks).map kD)) .ow → Q v H') {b : Addr} {L : List (Addr × List Int)} (hb0 : H1 b = none) (hL1 : ∀ p ∈ L, p ∈ cs) (hL2 : ∀ p ∈ cs, p.2 ∈ L.map (·.2)) :
    ST.rSortedK X.K X.prog X.w [.ref b] (upd H1 b (SetTO X.prog X.w b L)) Q := by
  have s2 : Step X.K H1 G1 (upd H1 b (SetTO X.prog X.w b L)) G1 := Step.new' s.gh hb0
  refine ⟨b, L, rfl, upd_same, fun p hp => cellK_sq s2.gh (hk p (hL1 p hp)), fun p hp => hne _ (by rw [← ek]; exact List.mem_map_of_mem (hL1 p hp)), fun L' p' pm nd _ pw hp' => ?_⟩
  have s3 : Step X.K (upd H1 b (SetTO X.prog X.w b L)) G1 (upd (upd H1 b (SetTO X.prog X.w b L)) p' (.lst (L'.map fun r => V.ref r.1))) G1 ∧ Res X.K _ _ G1 (.ref p') (.list ((L'.map (·.2)).map kD)) .ow := ow_new s2.gh hp' (tups_rp fun r hr => hk r (hL1 r (pm.mem_iff.mp hr)))
  have eN : L'.map (·.2) = srtK ks := by
    symm
    refine srtK_one nd (fun k => ?_) (List.pairwise_map.mpr pw)
    rw [← ek]
    constructor
    · intro hz
      obtain ⟨r, hr, rfl⟩ := List.mem_map.mp hz
      exact List.mem_map_of_mem (hL1 r (pm.mem_iff.mp hr))
    · intro hz
      obtain ⟨r, hr, rfl⟩ := List.mem_map.mp hz
      obtain ⟨m, hm, e⟩ := List.mem_map.mp (hL2 r hr)
      rw [← e]
      exact List.mem_map_of_mem (pm.mem_iff.mpr hm)
  rw [eN] at s3
  exact qq _ _ _ ((s.trans s2).trans s3.1) (Res.back (s.trans s2) s3.2)
def aSrtSet : D → Option D
  | .list ds => match srtSetL ds with
    | some d => some d
    | none => srtKs ds
  | .tuple ds => match srtSetL ds with
    | some d => some d
    | none => srtKs ds
  | _ => none
theorem aSrt_eq {ds : List D} {d : D} (h : (match srtSetL ds with
    | some d => some d
    | none => srtKs ds) = some d) : srtSetL ds = some d ∨ srtKs ds = some d := by
  split at h
  · rename_i d' e
    cases h
    exact .inl e
  · exact .inr h
theorem srtSetL_eq {ds : List D} {d : D} (h : srtSetL ds = some d) : (∃ ps, ds.length < 64 ∧ prsOf ds = some ps ∧ d = .list ((srtP ps).map prD)) ∨ ∃ ns, intsOf ds = some ns ∧ (ddL ns).length < 64 ∧ d = .list ((srtI ns).map PyData.int) := by
  have q : srtInts ds = some d → ∃ ns, intsOf ds = some ns ∧ (ddL ns).length < 64 ∧ d = .list ((srtI ns).map PyData.int) := fun h => by
    obtain ⟨ns, h1, h⟩ := Option.bind_eq_some_iff.mp h
    split at h
    · cases h
      exact ⟨ns, h1, by assumption, rfl⟩
    · cases h
  unfold srtSetL at h
  split at h
  · split at h
    · cases h
      exact .inl ⟨_, by assumption, by assumption, rfl⟩
    · exact .inr (q h)
  · exact .inr (q h)
theorem srtI_mem {ns : List Int} {k : Int} : k ∈ srtI ns ↔ k ∈ ns := by
  unfold srtI
  rw [List.mem_mergeSort, ddL_mem]
theorem srtI_one {ns R : List Int} (hp : R.Pairwise (· < ·)) (hm : ∀ k, k ∈ R ↔ k ∈ ns) : srtI ns = R := by
  have nd : R.Nodup := hp.imp fun h e => by omega
  have nd2 : (srtI ns).Nodup := by
    unfold srtI
    exact (List.mergeSort_perm _ _).nodup_iff.mpr (ddL_nd ns)
  refine List.Perm.eq_of_pairwise (le := fun a b => a ≤ b) (fun a b _ _ h1 h2 => Int.le_antisymm h1 h2) ?_ (hp.imp fun h => Int.le_of_lt h) ((List.perm_ext_iff_of_nodup nd2 nd).mpr fun p => srtI_mem.trans (hm p).symm)
  have := List.pairwise_mergeSort (le := fun a b : Int => decide (a ≤ b)) (fun a b c h1 h2 => by simp only [decide_eq_true_eq] at *; omega) (fun a b => by simp only [Bool.or_eq_true, decide_eq_true_eq]; omega) (ddL ns)
  exact this.imp fun h => of_decide_eq_true h
theorem iteS {α : Type} {c : Prop} [Decidable c] {x : Option α} {y : α} (h : (if c then x else none) = some y) : c ∧ x = some y := by
  split at h
  · exact ⟨by assumption, h⟩
  · cases h
theorem srt_tail {X : Cx} {H0 G0 H1 G1 : Hp} {ps : List Pr} {ks : List (Addr × Pr)} {Q : VK} (hb : ∀ p ∈ ps, prB p = true) (s : Step X.K H0 G0 H1 G1) (ek : ks.map (·.2) = ps) (hk : ∀ q ∈ ks, Rp X.K G1 (.ref q.1) (prD q.2))
    (qq : ∀ (v : V) (H' G' : Hp), Step X.K H0 G0 H' G' → Res X.K H0 H' G' v (.list ((srtP ps).map prD)) .ow → Q v H') {b : Addr} {L : List (Addr × List Int)} (hb0 : H1 b = none) (hL1 : ∀ p ∈ L, p ∈ ks.map fun r => (r.1, prK r.2)) (hL2 : ∀ p ∈ ks.map (fun r => (r.1, prK r.2)), p.2 ∈ L.map (·.2)) :
    rSortedT X.K X.prog X.w [.ref b] (upd H1 b (SetTO X.prog X.w b L)) Q := by
  obtain ⟨M, eM, hM⟩ := back_pr hL1
  subst eM
  have s2 : Step X.K H1 G1 (upd H1 b (SetTO X.prog X.w b (M.map fun r => (r.1, prK r.2)))) G1 := Step.new' s.gh hb0
  refine ⟨b, _, 2, 64, rfl, upd_same, ?_, by omega, ?_, ?_⟩
  · intro r hr
    obtain ⟨c, hc', rfl⟩ := List.mem_map.mp hr
    exact cell_sq s2.gh (hk c (hM c hc'))
  · intro r hr
    obtain ⟨c, hc', rfl⟩ := List.mem_map.mp hr
    have hcb : prB c.2 = true := hb c.2 (by rw [← ek]; exact List.mem_map_of_mem (hM c hc'))
    have := prB_eq hcb
    refine ⟨rfl, fun m hm => ?_⟩
    unfold prK at hm
    simp only [List.mem_cons, List.not_mem_nil, or_false] at hm
    rcases hm with rfl | rfl
    · exact this.1
    · exact this.2
  · intro L' p' pm nd _ pw hp'
    obtain ⟨N, eN, hN⟩ := back_pr (ks := M) (L := L') fun r hr => pm.mem_iff.mp hr
    subst eN
    have s3 : Step X.K (upd H1 b (SetTO X.prog X.w b (M.map fun r => (r.1, prK r.2)))) G1 (upd (upd H1 b (SetTO X.prog X.w b (M.map fun r => (r.1, prK r.2)))) p' (.lst (N.map fun r => V.ref r.1))) G1 ∧ Res X.K _ _ G1 (.ref p') (.list ((N.map (·.2)).map prD)) .ow := ow_new s2.gh hp' (pairs_rp fun r hr => hk r (hM r (hN r hr)))
    have eN2 : N.map (·.2) = srtP ps := by
      symm
      refine srtP_one hb ?_ (fun z => ?_) ?_
      · rw [List.map_map] at nd
        exact List.Pairwise.of_map (S := fun a b : List Int => a ≠ b) prK (fun a b hne e => hne (congrArg prK e)) (by rw [List.map_map]; exact nd)
      · constructor
        · intro hz
          obtain ⟨r, hr, rfl⟩ := List.mem_map.mp hz
          rw [← ek]
          exact List.mem_map_of_mem (hM r (hN r hr))
        · intro hz
          rw [← ek] at hz
          obtain ⟨r, hr, rfl⟩ := List.mem_map.mp hz
          have h2 := hL2 (r.1, prK r.2) (List.mem_map_of_mem hr)
          rw [List.map_map] at h2
          obtain ⟨m, hm', e⟩ := List.mem_map.mp h2
          have hmN : (m.1, prK m.2) ∈ N.map fun r => (r.1, prK r.2) := pm.mem_iff.mpr (List.mem_map_of_mem hm')
          obtain ⟨n, hn, e3⟩ := List.mem_map.mp hmN
          injection e3 with _ e3
          have : n.2 = r.2 := prK_inj (e3.trans e)
          rw [← this]
          exact List.mem_map_of_mem hn
      · rw [List.pairwise_map] at pw ⊢
        exact pw.imp fun h => by rw [prC_code, prC_code] at h; exact h
    rw [eN2] at s3
    have : (N.map fun r => (r.1, prK r.2)).map (fun q => V.ref q.1) = N.map fun r => V.ref r.1 := by rw [List.map_map]; rfl
    rw [this]
    exact qq _ _ _ ((s.trans s2).trans s3.1) (Res.back (s.trans s2) s3.2)
theorem srtI_tail {X : Cx} {H0 G0 H1 G1 : Hp} {ns : List Int} {Q : VK} (s : Step X.K H0 G0 H1 G1) (hl : (ddL ns).length < 64)
    (qq : ∀ (v : V) (H' G' : Hp), Step X.K H0 G0 H' G' → Res X.K H0 H' G' v (.list ((srtI ns).map PyData.int)) .ow → Q v H') {b : Addr} (hb0 : H1 b = none) :
    rSortedSet X.w [.ref b] (upd H1 b (SetO X.w b (fun j => decide (j ∈ ns)) (ddL ns).length)) Q := by
  have s2 : Step X.K H1 G1 (upd H1 b (SetO X.w b (fun j => decide (j ∈ ns)) (ddL ns).length)) G1 := Step.new' s.gh hb0
  refine ⟨b, _, _, rfl, upd_same, hl, fun ms p pw mem _ hp => ?_⟩
  have e : srtI ns = ms := srtI_one pw fun k => (mem k).trans (by simp)
  have s3 : Step X.K (upd H1 b (SetO X.w b (fun j => decide (j ∈ ns)) (ddL ns).length)) G1 (upd (upd H1 b (SetO X.w b (fun j => decide (j ∈ ns)) (ddL ns).length)) p (.lst (ms.map V.int))) G1 ∧ Res X.K _ _ G1 (.ref p) (.list (ms.map PyData.int)) .ow := ow_new s2.gh hp (rpAll_ints ms)
  rw [← e] at s3
  rw [← e]
  exact qq _ _ _ ((s.trans s2).trans s3.1) (Res.back (s.trans s2) s3.2)
theorem e_srtSet {X : Cx} {a : Expr} {fa : Den} {p p2 q pos : Pos} (hc : X.calm = true) (hu : X.A.units + 64 < cLine) (hg : Gl X "sorted") (hm : X.mg "sorted" = none) (hg2 : Gl X "set") (hm2 : X.mg "set" = none) (na : isStar a = false) (ha : PE X a (tE X.K .bw fa)) :
    PE X (.Call (.Name "sorted" p) [.Call (.Name "set" p2) [a] [] q] [] pos) (tE X.K .ow (d1 aSrtSet fa)) :=
  peW (pe_callB (CallR.or (CallR.or (cr_sortedT hc) (cr_sortedSet hc)) (ST.cr_sortedK hc hu)) hg hm (by decide +kernel) (pa_cons (pe_callTy (CallR.or (CallR.or (cr_setOfT hc hu) (ST.cr_setTup hc hu)) (ST.cr_setI hc)) hg2 hm2 (by decide +kernel) (pa_cons ha pa_nil (st1 na)) (by decide) (by decide) (st1 na) (back_ok _ _ _ rfl)) pa_nil (st1 rfl)) (by decide) (by decide) (st1 rfl) (back_ok _ _ _ rfl)) fun σ H Q ⟨H0, G0, G, ρ, d, ok, hf, qq⟩ => by
    obtain ⟨x, hx, hd⟩ := d1_eq hf
    unfold aSrtSet at hd
    split at hd
    · rename_i ds
      rcases aSrt_eq hd with hd | hd
      rotate_left
      · obtain ⟨ks, hl, e1, hne, rfl⟩ := srtKs_eq hd
        subst e1
        refine ⟨H0, G0, G, ρ, _, ok, hx, fun v H1 G1 s r => .inl (.inl ?_)⟩
        obtain ⟨l, vs, rfl, h1, rr⟩ := Rb.lst s.gh r
        obtain ⟨cs, ev, ek, hk⟩ := cellsK rr
        subst ev
        refine ⟨l, cs, rfl, .inl h1, fun q hq => cellK_sq s.gh (hk q hq), ?_, fun b L hb0 hL1 hL2 => .inr (srtK_tail hne s ek hk (fun v H' G' s' r' => qq v H' G' s' r') hb0 hL1 hL2)⟩
        rw [← List.length_map (f := (·.2)), ek]
        rw [List.length_map] at hl
        exact hl
      rcases srtSetL_eq hd with ⟨ps, hl, hp, rfl⟩ | ⟨ns, hn, hl, rfl⟩
      · obtain ⟨e1, hb⟩ := prsOf_eq hp
        subst e1
        refine ⟨H0, G0, G, ρ, _, ok, hx, fun v H1 G1 s r => .inl (.inl ?_)⟩
        obtain ⟨l, vs, rfl, h1, rr⟩ := Rb.lst s.gh r
        obtain ⟨ks, ev, ek, hk⟩ := cells rr
        subst ev
        refine ⟨l, ks.map fun r => (r.1, prK r.2), rfl, ?_, ?_, ?_, fun b L hb0 hL1 hL2 => .inl (.inl (srt_tail hb s ek hk (fun v H' G' s' r' => qq v H' G' s' r') hb0 hL1 hL2))⟩
        · rw [List.map_map]; exact .inl h1
        · intro r hr
          obtain ⟨c, hc', rfl⟩ := List.mem_map.mp hr
          exact cell_sq s.gh (hk c hc')
        · rw [List.length_map, ← List.length_map (f := (·.2)), ek]
          rw [List.length_map] at hl
          exact hl
      · rw [intsOf_eq hn] at hx
        refine ⟨H0, G0, G, ρ, _, ok, hx, fun v H1 G1 s r => .inr ?_⟩
        obtain ⟨l, vs, rfl, h1, rr⟩ := Rb.lst s.gh r
        rw [rr.ints] at h1
        exact ⟨l, ns, rfl, .inr (.inl h1), by omega, fun b hb0 => .inl (.inr (srtI_tail s hl (fun v H' G' s' r' => qq v H' G' s' r') hb0))⟩
    · rename_i ds
      rcases aSrt_eq hd with hd | hd
      rotate_left
      · obtain ⟨ks, hl, e1, hne, rfl⟩ := srtKs_eq hd
        subst e1
        refine ⟨H0, G0, G, ρ, _, ok, hx, fun v H1 G1 s r => .inl (.inr ?_)⟩
        obtain ⟨l, vs, rfl, h1, rr⟩ := Rb.tup r
        obtain ⟨cs, ev, ek, hk⟩ := cellsK rr
        subst ev
        refine ⟨l, cs, rfl, .inl (rdM s.gh h1.rd), fun q hq => cellK_sq s.gh (hk q hq), ?_, fun b L hb0 hL1 hL2 => .inr (srtK_tail hne s ek hk (fun v H' G' s' r' => qq v H' G' s' r') hb0 hL1 hL2)⟩
        rw [← List.length_map (f := (·.2)), ek]
        rw [List.length_map] at hl
        exact hl
      rcases srtSetL_eq hd with ⟨ps, hl, hp, rfl⟩ | ⟨ns, hn, hl, rfl⟩
      · obtain ⟨e1, hb⟩ := prsOf_eq hp
        subst e1
        refine ⟨H0, G0, G, ρ, _, ok, hx, fun v H1 G1 s r => .inl (.inr ?_)⟩
        obtain ⟨l, vs, rfl, h1, rr⟩ := Rb.tup r
        obtain ⟨ks, ev, ek, hk⟩ := cells rr
        subst ev
        refine ⟨l, ks.map fun r => (r.1, prK r.2), rfl, ?_, ?_, ?_, fun b L hb0 hL1 hL2 => .inl (.inl (srt_tail hb s ek hk (fun v H' G' s' r' => qq v H' G' s' r') hb0 hL1 hL2))⟩
        · rw [List.map_map]; exact .inl (rdM s.gh h1.rd)
        · intro r hr
          obtain ⟨c, hc', rfl⟩ := List.mem_map.mp hr
          exact cell_sq s.gh (hk c hc')
        · rw [List.length_map, ← List.length_map (f := (·.2)), ek]
          rw [List.length_map] at hl
          exact hl
      · rw [intsOf_eq hn] at hx
        refine ⟨H0, G0, G, ρ, _, ok, hx, fun v H1 G1 s r => .inr ?_⟩
        obtain ⟨l, vs, rfl, h1, rr⟩ := Rb.tup r
        rw [rr.ints] at h1
        exact ⟨l, ns, rfl, .inl (.inl (rdM s.gh h1.rd)), by omega, fun b hb0 => .inl (.inr (srtI_tail s hl (fun v H' G' s' r' => qq v H' G' s' r') hb0))⟩
    · cases hd
def lenInts (ds : List D) : Option D := (intsOf ds).bind fun ns => if (ddL ns).length < 4000 then some (.int ((ddL ns).length : Nat)) else none
def aLenSet : D → Option D
  | .tuple ds => if ds.length < 64 then (match intsOf ds with
    | some ns => some (.int ((ddL ns).length : Nat))
    | none => (ksOf ds).map fun ks => .int ((ddL ks).length : Nat)) else none
  | .list ds => if ds.length < 64 then (match ksOf ds with
    | some ks => some (.int ((ddL ks).length : Nat))
    | none => lenInts ds) else lenInts ds
  | _ => none
theorem lenSetL_eq {ds : List D} {d : D} (h : aLenSet (.list ds) = some d) : (∃ ks, ds.length < 64 ∧ ksOf ds = some ks ∧ d = .int ((ddL ks).length : Nat)) ∨ ∃ ns, intsOf ds = some ns ∧ (ddL ns).length < 4000 ∧ d = .int ((ddL ns).length : Nat) := by
  have q : lenInts ds = some d → ∃ ns, intsOf ds = some ns ∧ (ddL ns).length < 4000 ∧ d = .int ((ddL ns).length : Nat) := fun h => by
    obtain ⟨ns, h1, h⟩ := Option.bind_eq_some_iff.mp h
    split at h
    · cases h
      exact ⟨ns, h1, by assumption, rfl⟩
    · cases h
  have h' : (if ds.length < 64 then (match ksOf ds with | some ks => some (.int ((ddL ks).length : Nat)) | none => lenInts ds) else lenInts ds) = some d := h
  split at h'
  · split at h'
    · cases h'
      exact .inl ⟨_, by assumption, by assumption, rfl⟩
    · exact .inr (q h')
  · exact .inr (q h')
theorem lens_in {X : Cx} {H0 G0 H1 G1 : Hp} {ks : List (List Int)} {cs : List (Addr × List Int)} {Q : VK} (s : Step X.K H0 G0 H1 G1) (hk' : ∀ q ∈ cs, Rp X.K G1 (.ref q.1) (kD q.2)) (ek : cs.map (·.2) = ks)
    (qq : ∀ (v : V) (H' G' : Hp), Step X.K H0 G0 H' G' → Res X.K H0 H' G' v (.int ((ddL ks).length : Nat)) .ow → Q v H') {b : Addr} {L : List (Addr × List Int)} (hb0 : H1 b = none) (hL1 : ∀ p ∈ L, p ∈ cs) (hL2 : ∀ p ∈ cs, p.2 ∈ L.map (·.2)) :
    ST.rLenS X.K X.prog X.w [.ref b] (upd H1 b (SetTO X.prog X.w b L)) Q := by
  have s2 : Step X.K H1 G1 (upd H1 b (SetTO X.prog X.w b L)) G1 := Step.new' s.gh hb0
  refine ⟨b, L, rfl, upd_same, fun r hr => cellK_sq s2.gh (hk' r (hL1 r hr)), fun nd => ?_⟩
  have : L.length = (ddL ks).length := by
    rw [← ddL_len nd (ns := ks) fun k => ?_, List.length_map]
    constructor
    · intro hz
      obtain ⟨r, hr, rfl⟩ := List.mem_map.mp hz
      rw [← ek]
      exact List.mem_map_of_mem (hL1 r hr)
    · intro hz
      rw [← ek] at hz
      obtain ⟨r, hr, rfl⟩ := List.mem_map.mp hz
      exact hL2 r hr
  rw [this]
  exact qq _ _ _ (s.trans s2) (ow_int _)
theorem e_lenSet {X : Cx} {a : Expr} {fa : Den} {p p2 q pos : Pos} (hc : X.calm = true) (hu : X.A.units + 64 < cLine) (hg : Gl X "len") (hm : X.mg "len" = none) (hg2 : Gl X "set") (hm2 : X.mg "set" = none) (na : isStar a = false) (ha : PE X a (tE X.K .bw fa)) :
    PE X (.Call (.Name "len" p) [.Call (.Name "set" p2) [a] [] q] [] pos) (tE X.K .ow (d1 aLenSet fa)) :=
  peC (ST.pe_lenI hc hg hm hg2 hm2 ha na) (pe_callB (CallR.or ST.cr_lenS ST.cr_lenIS) hg hm PySem.boot_len (pa_cons (pe_callTy (CallR.or (CallR.or (cr_setOfT hc hu) (ST.cr_setTup hc hu)) (ST.cr_setI hc)) hg2 hm2 (by decide +kernel) (pa_cons ha pa_nil (st1 na)) (by decide) (by decide) (st1 na) (back_ok _ _ _ rfl)) pa_nil (st1 rfl)) (by decide) (by decide) (st1 rfl) (back_ok _ _ _ rfl)) fun σ H Q ⟨H0, G0, G, ρ, d, ok, hf, qq⟩ => by
    obtain ⟨x, hx, hd⟩ := d1_eq hf
    have hd0 := hd
    unfold aLenSet at hd
    split at hd
    · rename_i ds
      obtain ⟨hl, hd⟩ := iteS hd
      split at hd
      · rename_i ns hn
        cases hd
        refine .inl ⟨H0, G0, G, ρ, _, ok, hx, fun v H1 G1 s r => ?_⟩
        obtain ⟨l, vs, rfl, h1, rr⟩ := Rb.tup r
        rw [intsOf_eq hn] at rr hl
        rw [rr.ints] at h1
        refine ⟨l, ns, rfl, .inl (rdM s.gh h1.rd), by simpa using hl, fun c hcc => ?_⟩
        rw [← hcc (ddL ns) (ddL_nd ns) (fun k => ddL_mem)]
        exact qq _ _ _ s (ow_int _)
      · obtain ⟨ks, hk, hd⟩ := Option.map_eq_some_iff.mp hd
        subst hd
        have e1 := ksOf_eq hk
        subst e1
        refine .inr ⟨H0, G0, G, ρ, _, ok, hx, fun v H1 G1 s r => .inl (.inr ?_)⟩
        obtain ⟨l, vs, rfl, h1, rr⟩ := Rb.tup r
        obtain ⟨cs, ev, ek, hk'⟩ := cellsK rr
        subst ev
        have hl2 : cs.length < 64 := by rw [← List.length_map (f := (·.2)), ek]; simpa using hl
        refine ⟨l, cs, rfl, .inl (rdM s.gh h1.rd), fun r hr => cellK_sq s.gh (hk' r hr), hl2, fun b L hb0 hL1 hL2 => ?_⟩
        exact .inl (lens_in s hk' ek (fun v H' G' s' r' => qq v H' G' s' r') hb0 hL1 hL2)
    · rename_i ds
      clear hd
      rcases lenSetL_eq hd0 with ⟨ks, hl, hk, rfl⟩ | ⟨ns, hn, hl, rfl⟩
      · have e1 := ksOf_eq hk
        subst e1
        refine .inr ⟨H0, G0, G, ρ, _, ok, hx, fun v H1 G1 s r => .inl (.inl ?_)⟩
        obtain ⟨l, vs, rfl, h1, rr⟩ := Rb.lst s.gh r
        obtain ⟨cs, ev, ek, hk'⟩ := cellsK rr
        subst ev
        have hl2 : cs.length < 64 := by rw [← List.length_map (f := (·.2)), ek]; simpa using hl
        refine ⟨l, cs, rfl, .inl h1, fun r hr => cellK_sq s.gh (hk' r hr), hl2, fun b L hb0 hL1 hL2 => ?_⟩
        exact .inl (lens_in s hk' ek (fun v H' G' s' r' => qq v H' G' s' r') hb0 hL1 hL2)
      · rw [intsOf_eq hn] at hx
        refine .inr ⟨H0, G0, G, ρ, _, ok, hx, fun v H1 G1 s r => .inr ?_⟩
        obtain ⟨l, vs, rfl, h1, rr⟩ := Rb.lst s.gh r
        rw [rr.ints] at h1
        refine ⟨l, ns, rfl, .inr (.inl h1), hl, fun b hb0 => .inr ⟨b, _, _, rfl, upd_same, ?_⟩⟩
        exact qq _ _ _ (s.trans (Step.new' s.gh hb0)) (ow_int _)
    · cases hd
end PF
namespace PF
open PySem PySem.Spec PyProof.Rows L2 RZ
section
variable {X : Cx} {a b c e : Expr} {fa fb fc f : Den} {pos p p' apos : Pos} {m : Md} {i : Nat} {x : Str}
theorem e_ifO (hc : PT X c (tT X.K (dT fc))) (ha : PE X a (tE X.K .ow fa)) (hb : PE X b (tE X.K .ow fb)) : PE X (.IfExp c a b pos) (tE X.K .ow (dIf fc fa fb)) :=
  peW (pe_ifExp hc ha hb) fun σ H Q ⟨H0, G0, G, ρ, d, ok, hf, q⟩ => by
    unfold dIf at hf
    split at hf
    · rename_i e
      refine ⟨H0, G0, G, ρ, true, ok, by unfold dT; rw [e], fun H' G' s => ?_⟩
      refine iteT ?_
      exact ⟨H0, G0, G', ρ, d, ok.step s, hf, fun v2 H2 G2 s2 r2 => q v2 H2 G2 (s.trans s2) (res_up s r2)⟩
    · rename_i e
      refine ⟨H0, G0, G, ρ, false, ok, by unfold dT; rw [e], fun H' G' s => ?_⟩
      refine iteF ?_
      exact ⟨H0, G0, G', ρ, d, ok.step s, hf, fun v2 H2 G2 s2 r2 => q v2 H2 G2 (s.trans s2) (res_up s r2)⟩
    · cases hf
def dAug (i : Nat) (f : Den) : DenS := fun ρ => match ρ[i]?, f ρ with
  | some (some (.val (.int j))), some (.int k) => some (.next (ρ.set i (some (.val (.int (j + k))))))
  | _, _ => none
theorem s_aug (hN : X.N.Nodup) (hi : X.N[i]? = some x) (hx : Loc X.env.scope x) (hf : X.fn x = true ∨ X.env.scope.names.lookup x = some .local) (he : PE X e (tE X.K .bw f)) : PS X (.AugAssign (.Name x p') .Add e pos) (tS X.K (dAug i f)) :=
  psW (ps_aug hN hi hx he ip_add hf) fun Dn σ H ⟨H0, G0, G, ρ, out, ok, hf, q⟩ => by
    unfold dAug at hf
    split at hf
    · rename_i j k e1 e2
      cases hf
      obtain ⟨v, h1, h2⟩ := ok.sl i _ e1
      cases h2
      refine ⟨_, h1, H0, G0, G, ρ, _, ok, e2, fun v H' G' s r => ?_⟩
      cases Rb.int r
      exact ⟨j, k, rfl, rfl, q _ _ _ s.gg ((ok.step s).set_val (.int _))⟩
    · cases hf
def dRemove (i : Nat) (f : Den) : DenS := fun ρ => match ρ[i]?, f ρ with
  | some (some (.own xs)), some (.int k) => (intsOf xs).bind fun ns => if k ∈ ns then some (.next (ρ.set i (some (.own ((ns.erase k).map PyData.int))))) else none
  | _, _ => none
theorem s_remove (hc : X.calm = true) (hN : X.N[i]? = some x) (hv : Vis X.env.scope x) (hd : (x == ("__debug__" : Str)) = false) (hcd : (x == ("__classdict__" : Str)) = false) (hl : (apos.endLine == pos.line) = true) (hs : isStar e = false) (he : PE X e (tE X.K .bw f)) :
    PS X (.Expr (.Call (.Attribute (.Name x p) "remove" apos) [e] [] pos) p') (tS X.K (dRemove i f)) :=
  psW (ps_expr (pe_remX hc takes0 (pe_var hN hv hd hcd) he rfl (few1 hs) hl (st1 hs)) rfl) fun Dn σ H ⟨H0, G0, G, ρ, out, ok, hf, q⟩ => by
    unfold dRemove at hf
    split at hf
    · rename_i xs k e1 e2
      obtain ⟨ns, e3, hf⟩ := Option.bind_eq_some_iff.mp hf
      split at hf
      · rename_i hk
        cases hf
        obtain ⟨a, vs, h1, h2, h3, h4, h5⟩ := own_get ok e1
        refine ⟨_, h1, .inl ⟨rfl, _, .inl (.inl h2)⟩, H0, G0, G, ρ, _, ok, e2, fun v H1 G1 s r => ?_⟩
        cases Rb.int r
        have e4 := intsOf_eq e3
        subst e4
        have ev := RpAll.ints h3
        subst ev
        have k2 := s.same.lst h2
        have k4 : G1 a = none := by rw [s.old a (some_ne h2)]; exact h4
        exact ⟨a, ns, k, rfl, rfl, k2, fun _ => q _ _ _ s.gg ((ok.step s).mut e1 h1 k2 k4 h5 (rpAll_ints _)), fun z => absurd hk z⟩
      · cases hf
    · cases hf
end
end PF
namespace PF
open PySem PySem.Spec PyProof.Rows L2 RZ
inductive RbM (K : PySem.W.Frag) (H G : Hp) : List Bool → List V → List D → Prop
  | nil : RbM K H G [] [] []
  | cons {b : Bool} {m : List Bool} {v : V} {vs : List V} {d : D} {ds : List D} : (Rp K G v d ∨ b = true ∧ ∃ xs, d = .list xs ∧ OwnV K H G v xs) → RbM K H G m vs ds → RbM K H G (b :: m) (v :: vs) (d :: ds)
theorem RbM.length {K : PySem.W.Frag} {H G : Hp} : ∀ {m : List Bool} {vs : List V} {ds : List D}, RbM K H G m vs ds → vs.length = ds.length
  | _, _, _, .nil => rfl
  | _, _, _, .cons _ t => by rw [List.length_cons, List.length_cons, RbM.length t]
def spL (K : PySem.W.Frag) (m : List Bool) (n : Nat) (f : List D → Option D) : Sp := fun vs H Q _ => ∃ G ds d, TbOk K G H ∧ Same G H ∧ RbM K H G m vs ds ∧ ds.length = n ∧ f ds = some d ∧ ∀ v H' G', Step K H G H' G' → Rp K G' v d → Q v H'
def AvL (P : Program) (w : World) (K : PySem.W.Frag) (mg : Str → Option Value) (base : Heap) (k : Nat) (x : Str) (m : List Bool) (n : Nat) (g : List D → Option D) : Prop :=
  ∃ fa fd ps, mg x = some (.ref fa) ∧ PySem.W.keepIn K (.ref fa) = true ∧ Binds K fd ps [] ∧ FnOk P w K mg base CX0 k fa fd ps (spL K m n g)
theorem AvL.mono {P : Program} {w : World} {K : PySem.W.Frag} {mg : Str → Option Value} {base : Heap} {j k n : Nat} {x : Str} {m : List Bool} {g : List D → Option D} (h : AvL P w K mg base j x m n g) (hj : j ≤ k) : AvL P w K mg base k x m n g := by
  obtain ⟨fa, fd, ps, h1, h2, h3, h4⟩ := h
  exact ⟨fa, fd, ps, h1, h2, h3, h4.mono hj⟩
section
variable {K : PySem.W.Frag} {H G : Hp}
theorem RbM.step {H' G' : Hp} : ∀ {m : List Bool} {vs : List V} {ds : List D}, RbM K H G m vs ds → Step K H G H' G' → RbM K H' G' m vs ds
  | _, _, _, .nil, _ => .nil
  | _, _, _, .cons r t, s => .cons (r.elim (fun h => .inl (Rp.mono s.gg h)) fun ⟨hb, xs, hd, a, vs, h1, h2, h3⟩ => .inr ⟨hb, xs, hd, a, vs, h1, s.same.lst h2, h3.mono s.gg⟩) (RbM.step t s)
end
def tAm (K : PySem.W.Frag) (m : List Bool) (f : Env → Option (List D)) : TA := fun σ H Q => ∃ H0 G0 G ρ ds, EnvOk K H0 G0 H G σ ρ ∧ f ρ = some ds ∧ ∀ vs H' G', Step K H G H' G' → RbM K H' G' m vs ds → Q vs H'
section
variable {X : Cx} {e : Expr} {es : List Expr} {f : Den} {fs : List Den} {pos p : Pos}
theorem am_nil : PA X [] (tAm X.K [] (dArgs [])) := paW pa_nil fun σ H Q ⟨H0, G0, G, ρ, ds, ok, hf, q⟩ => by
  cases hf
  exact q [] H G (Step.refl ok.gh) .nil
theorem am_consT {m : List Bool} (hs : isStar e = false) (ha : PE X e (tE X.K .bw f)) (hr : PA X es (tAm X.K m (dArgs fs))) : PA X (e :: es) (tAm X.K (true :: m) (dArgs (f :: fs))) :=
  paW (pa_cons ha hr (star_ok hs _)) fun σ H Q ⟨H0, G0, G, ρ, ds, ok, hf, q⟩ => by
    obtain ⟨x, xs, h1, h2, rfl⟩ := dArgs_cons hf
    refine ⟨H0, G0, G, ρ, x, ok, h1, fun v H1 G1 s1 r1 => ⟨H0, G0, G1, ρ, xs, ok.step s1, h2, fun vs H2 G2 s2 r2 => ?_⟩⟩
    refine q (v :: vs) H2 G2 (s1.trans s2) (.cons ?_ r2)
    rcases (show Rb X.K H1 G1 v x from r1) with h | ⟨ys, hd, a, us, k1, k2, k3⟩
    · exact .inl (Rp.mono s2.gg h)
    · exact .inr ⟨rfl, ys, hd, a, us, k1, s2.same.lst k2, k3.mono s2.gg⟩
theorem am_consF {m : List Bool} (hs : isStar e = false) (ha : PE X e (tE X.K .fz f)) (hr : PA X es (tAm X.K m (dArgs fs))) : PA X (e :: es) (tAm X.K (false :: m) (dArgs (f :: fs))) :=
  paW (pa_cons ha hr (star_ok hs _)) fun σ H Q ⟨H0, G0, G, ρ, ds, ok, hf, q⟩ => by
    obtain ⟨x, xs, h1, h2, rfl⟩ := dArgs_cons hf
    refine ⟨H0, G0, G, ρ, x, ok, h1, fun v H1 G1 s1 r1 => ⟨H0, G0, G1, ρ, xs, ok.step s1, h2, fun vs H2 G2 s2 r2 => ?_⟩⟩
    exact q (v :: vs) H2 G2 (s1.trans s2) (.cons (.inl (Rp.mono s2.gg r1)) r2)
theorem e_callL {x : Str} {k n : Nat} {m : List Bool} {g : List D → Option D} (av : AvL X.prog X.w X.K X.mg X.base k x m n g) (hr : Room k X.A) (gl : Gl X x) (hdb : (x == ("__debug__" : Str)) = false) (hl : fs.length = n) (hs : (e :: es).all (fun e => !isStar e) = true) (ha : PA X (e :: es) (tAm X.K m (dArgs fs))) : PE X (.Call (.Name x p) (e :: es) [] pos) (tE X.K .fz (dCall g fs)) := by
  simp only [List.all_cons, Bool.and_eq_true] at hs
  obtain ⟨fa, fd, ps, hm, hk, hb, F⟩ := av
  exact peW (pe_call F hr gl hm hk hb .nil pass0 ha hdb (star_ok (by simpa using hs.1) _) (back_ok _ _ _ hs.2)) fun σ H Q ⟨H0, G0, G, ρ, d, ok, hf, q⟩ => by
    obtain ⟨ds, h1, h2⟩ := dCall_eq hf
    refine ⟨H0, G0, G, ρ, ds, ok, h1, fun vs H1 G1 s r => ?_⟩
    show spL X.K m n g (vs ++ []) H1 Q E0
    rw [List.append_nil]
    exact ⟨G1, ds, d, s.tb ok.tb, s.gh, r, by rw [dArgs_len h1, hl], h2, fun v H' G' s' r' => q v H' G' (s.trans s') r'⟩
end
end PF
namespace ML
open PySem PySem.Spec PyProof.Rows L2
section
variable {X : Cx}
theorem refs_of {α : Type} : ∀ {ks : List (Addr × α)} {us : List Value}, Vals (ks.map fun p => V.ref p.1) us → us = ks.map fun p => Value.ref p.1
  | [], _, .nil => rfl
  | p :: ks, _, .cons r t => by
    cases r
    rw [List.map_cons, refs_of t]
def lnAt (cs : List (Addr × List V)) (i : Nat) : Nat := ((cs.getD i (0, [])).2).length
def btL (cs : List (Addr × List V)) (i j : Nat) : Bool := decide ((lnAt cs i : Int) < (lnAt cs j : Int))
theorem call_minLen {pins : List (Addr × Obj)} {s : Shared} {σ : L2.St} {H : Hp} {l : Addr} {cs : List (Addr × List V)} {Q : VK} (hc : X.calm = true) (I : Inv X pins σ H s) (hq : SqL X.K H l (cs.map fun p => V.ref p.1)) (hk : ∀ p ∈ cs, SqL X.K H p.1 p.2) (hne : 0 < cs.length)
    (q : ∀ p, cs[argBest (btL cs) (cs.length - 1)]? = some p → Q (.ref p.1) H) : wpAny (model X.prog X.w) X.A (call (.builtin "min") [.ref l] [(Str.ofString "key", .builtin "len")]) (EP X pins σ Q) X.xe s := by
  obtain ⟨its, rv, pl, hz⟩ := I.list hq
  have hits : its = cs.map fun p => Value.ref p.1 := refs_of rv
  have hsz : its.toArray.size = cs.length := by rw [List.size_toArray, hits, List.length_map]
  refine call_min_walkKB (PySem.W.iter_listW (A := X.A.in1) (I.ok.hd hc) pl.isList fun s₂ e W st hfp hw hkp => ?_)
  have s2z : s.heap.objs.size < s₂.heap.objs.size := hfp _ (by simp)
  refine ⟨_, _, _, _, _, _, _, (fun s' => ∃ h' tk, s' = { s with heap := h', toks := tk } ∧ ∀ b o, s.heap.get? b = some o → h'.get? b = some o), (fun i k _ => ∃ t, k = .int (lnAt cs i : Int) t), btL cs, rfl, W, st, hfp, by rw [hsz]; exact hne, ?_, ?_, fun v s' hP hJ => ?_⟩
  · refine ⟨fun s1 s' hJ m => ?_, fun i k s1 s' hV m => hV, fun i v s1 o Q' E' hi hP hJ hSt hS hQ => ?_, fun i j ki kj s1 Q' E' hJ hVi hVj hQ => ?_⟩
    · obtain ⟨h1, tk, rfl, hk1⟩ := hJ
      refine ⟨s'.heap, s'.toks, ?_, fun b ob eb => m.heap b ob (fun hb => ?_) (hk1 b ob eb)⟩
      · obtain ⟨hp, g, d, tk, os⟩ := s'
        have e1 : g = s.gens := m.gens
        have e2 : d = s.drawn := m.drawn
        have e3 : os = s.os := m.os
        subst e1 e2 e3
        rfl
      · have := Heap.lt_size eb
        rcases List.mem_cons.mp hb with z | z
        · rw [z] at this; exact Nat.lt_irrefl _ (Nat.lt_trans this s2z)
        · rw [List.mem_singleton.mp z] at this; exact Nat.lt_irrefl _ this
    · obtain ⟨h1, tk, rfl, hk1⟩ := hJ
      have hv : its[i]? = some v := by simpa using hP
      rw [hits, List.getElem?_map] at hv
      obtain ⟨p, hp, rfl⟩ := Option.map_eq_some_iff.mp hv
      obtain ⟨js, rj, pj, zj⟩ := I.list (hk p (List.mem_of_getElem? hp))
      have hl1 : h1.IsList p.1 js.toArray := pj.isList.at fun o q => hk1 _ o q
      have hlen : js.length = lnAt cs i := by
        unfold lnAt
        rw [List.getD_eq_getElem?_getD, hp]
        exact rj.length.symm
      refine PySem.Calls.call_len_list (s := { s with heap := h1, toks := tk }) hl1 (by rw [List.size_toArray]; have := rj.length; unfold sizeLine at zj; omega) ?_
      rw [List.size_toArray, hlen]
      refine hQ _ _ ⟨h1, tk + 1 + 1, rfl, hk1⟩ ?_ hS ⟨_, rfl⟩ fun j k' z => z
      exact W.frame _ _ h1 (tk + 1 + 1) hSt (by show tk ≤ tk + 1 + 1; omega) fun b _ o q => q
    · exact CmpOf.ints_lt (prog := X.prog) (w := X.w) (A := X.A.in1) (P := fun i v => ∃ t, v = .int (lnAt cs i : Int) t) (fun i => (lnAt cs i : Int)) (fun i v h => h) i j _ _ _ _ _ hVi hVj hQ
  · subst e
    exact ⟨_, _, rfl, hkp⟩
  · obtain ⟨h1, tk, rfl, hk1⟩ := hJ
    have hv : its[argBest (btL cs) (its.toArray.size - 1)]? = some v := by simpa using hP
    rw [hsz, hits, List.getElem?_map] at hv
    obtain ⟨p, hp, rfl⟩ := Option.map_eq_some_iff.mp hv
    exact ⟨.ref p.1, H, I.kept hk1, rfl, q p hp⟩
def tMinLen (K : PySem.W.Frag) (ta : TE) : TE := fun σ H Q => ta σ H fun x H1 => ∃ (l : Addr) (cs : List (Addr × List V)), x = V.ref l ∧ SqL K H1 l (cs.map fun p => V.ref p.1) ∧ (∀ p ∈ cs, SqL K H1 p.1 p.2) ∧ 0 < cs.length ∧ ∀ p, cs[argBest (btL cs) (cs.length - 1)]? = some p → Q (.ref p.1) H1
def MLp (K : PySem.W.Frag) (Q : VK) : List V → Hp → Prop
  | [x], H1 => ∃ (l : Addr) (cs : List (Addr × List V)), x = V.ref l ∧ SqL K H1 l (cs.map fun p => V.ref p.1) ∧ (∀ p ∈ cs, SqL K H1 p.1 p.2) ∧ 0 < cs.length ∧ ∀ p, cs[argBest (btL cs) (cs.length - 1)]? = some p → Q (.ref p.1) H1
  | _, _ => False
theorem pe_minLen {a : Expr} {ta : TE} {p p2 kp pos : Pos} (hc : X.calm = true) (hg : Gl X "min") (hm : X.mg "min" = none) (hg2 : Gl X "len") (hm2 : X.mg "len" = none) (ha : PE X a ta) (na : PF.isStar a = false) :
    PE X (.Call (.Name "min" p) [a] [⟨some "key", .Name "len" p2, kp⟩] pos) (tMinLen X.K ta) := by
  refine ⟨fun pins s σ H Q I h => ?_⟩
  have hA := pa_cons ha pa_nil (PF.st1 na)
  refine wpAny_Call_Name_kw (ld_blt I hg hm (by decide +kernel : bootBuiltins "min" = some (.builtin "min")) ?_ (by decide) (by decide))
  refine PyProof.Rows.callWith_kw (thn (hA.run pos pins s σ H (fun vs H1 => MLp X.K Q vs H1) I h) fun us s1 ⟨vs, H1, I1, r1, q1⟩ => ?_) (by rw [PF.st1 na]; rfl) (by rw [PF.st1 na]; rfl) rfl rfl
  obtain ⟨x, rfl⟩ : ∃ x, vs = [x] := by
    match vs, q1 with
    | [x], _ => exact ⟨x, rfl⟩
  obtain ⟨l, cs, rfl, h1, h2, h3, q⟩ := q1
  rw [Vals.ref1 r1]
  show wpAny _ _ (evalAll ((do let v ← eval (.Name "len" p2) X.env; standAt pos; pure v) :: [])) _ _ s1
  refine wpAny_evalAll_cons (wpAny_bind (ld_blt I1 hg2 hm2 (by decide +kernel : bootBuiltins "len" = some (.builtin "len")) (wpAny_bind (wpAny_standAt (wpAny_pure ?_))) (by decide) (by decide)))
  refine wpAny_evalAll_nil ?_
  exact call_minLen hc I1 h1 h2 h3 q
end
end ML
namespace PF
open PySem PySem.Spec PyProof.Rows L2
section
variable {X : Cx} {a : Expr} {fa : Den}
def lensOf : List D → Option (List Nat)
  | [] => some []
  | .list xs :: r => (lensOf r).map (xs.length :: ·)
  | _ => none
def btN (ns : List Nat) (i j : Nat) : Bool := decide ((ns.getD i 0 : Int) < (ns.getD j 0 : Int))
def aMinLen : D → Option D
  | .list ds => (lensOf ds).bind fun ns => ds[argBest (btN ns) (ds.length - 1)]?
  | _ => none
theorem lens_cells {K : PySem.W.Frag} {G : Hp} : ∀ {ds : List D} {ns : List Nat} {vs : List V}, lensOf ds = some ns → RpAll K G vs ds → ∃ cs : List (Addr × List V), vs = cs.map (fun p => V.ref p.1) ∧ (∀ p ∈ cs, G p.1 = some (.lst p.2)) ∧ cs.map (fun p => p.2.length) = ns
  | [], _, _, h, r => by
    cases h
    cases r
    exact ⟨[], rfl, fun _ z => (nomatch z), rfl⟩
  | d :: r, ns, vs, h, rr => by
    cases rr with
    | cons r1 r2 =>
      cases d with
      | list xs =>
        unfold lensOf at h
        obtain ⟨ms, h1, h2⟩ := Option.map_eq_some_iff.mp h
        subst h2
        obtain ⟨cs, e1, e2, e3⟩ := lens_cells h1 r2
        cases r1 with
        | @lst b us _ q q2 =>
          refine ⟨(b, us) :: cs, by rw [e1]; rfl, fun p hp => ?_, ?_⟩
          · rcases List.mem_cons.mp hp with z | z
            · rw [z]; exact q
            · exact e2 p z
          · rw [List.map_cons, e3, q2.length]
      | _ => cases h
theorem ln_bt {cs : List (Addr × List V)} {ns : List Nat} (h : cs.map (fun p => p.2.length) = ns) : ML.btL cs = btN ns := by
  have : ∀ i, ML.lnAt cs i = ns.getD i 0 := fun i => by
    unfold ML.lnAt
    rw [← h, List.getD_eq_getElem?_getD, List.getD_eq_getElem?_getD, List.getElem?_map]
    cases cs[i]? <;> rfl
  funext i j
  unfold ML.btL btN
  rw [this, this]
theorem e_minLen {p p2 kp pos : Pos} (hc : X.calm = true) (gl : Gl X "min") (hm : X.mg "min" = none) (gl2 : Gl X "len") (hm2 : X.mg "len" = none) (na : isStar a = false) (ha : PE X a (tE X.K .bw fa)) : PE X (.Call (.Name "min" p) [a] [⟨some "key", .Name "len" p2, kp⟩] pos) (tE X.K .fz (d1 aMinLen fa)) :=
  peW (ML.pe_minLen hc gl hm gl2 hm2 ha na) fun σ H Q h => by
    obtain ⟨H0, G0, G, ρ, d, ok, hf, q⟩ := h
    obtain ⟨dx, e1, e2⟩ := d1_eq hf
    refine ⟨H0, G0, G, ρ, _, ok, e1, fun v H1 G1 s1 r1 => ?_⟩
    unfold aMinLen at e2
    split at e2
    · rename_i ds
      obtain ⟨ns, h1, h2⟩ := Option.bind_eq_some_iff.mp e2
      obtain ⟨l, vs, rfl, hl, rr⟩ := Rb.lst s1.gh r1
      obtain ⟨cs, c1, c2, c3⟩ := lens_cells h1 rr
      have hlen : cs.length = ds.length := by rw [← rr.length, c1, List.length_map]
      subst c1
      refine ⟨l, cs, rfl, .inl hl, fun p hp => .inl (rdM s1.gh (.inl (c2 p hp))), ?_, fun p hp => ?_⟩
      · have := (List.getElem?_eq_some_iff.mp h2).1
        omega
      · rw [ln_bt c3, hlen] at hp
        refine q _ _ _ s1 ?_
        obtain ⟨d', z1, z2⟩ := rr.getV (argBest (btN ns) (ds.length - 1)) (v := V.ref p.1) (by rw [List.getElem?_map, hp]; rfl)
        rw [h2] at z1
        cases z1
        exact z2
    · cases e2
end
end PF
namespace LK
open PySem PySem.Spec PyProof.Rows L2 LamX
structure LamP (sc scope : Scope) (p : Str) : Prop where
  kind : scope.kind = .function
  co : scope.isCoroutine = false
  gen : scope.isGenerator = false
  par : scope.names.lookup p = some .local
  one : ∀ y ∈ scope.names, y.2 = .local → y.1 = p
  cel : ∀ y ∈ scope.names, y.2 ≠ .cell
  cap : ∀ y ∈ scope.names, y.2 = .free → sc.names.lookup y.1 = some .cell ∨ sc.names.lookup y.1 = some .free
def lamPB (sc scope : Scope) (p : Str) : Bool :=
  decide (scope.kind = .function) && (!scope.isCoroutine && (!scope.isGenerator && (decide (scope.names.lookup p = some .local) && scope.names.all fun y => (!decide (y.2 = .local) || decide (y.1 = p)) && (!decide (y.2 = .cell) && (!decide (y.2 = .free) || (decide (sc.names.lookup y.1 = some .cell) || decide (sc.names.lookup y.1 = some .free)))))))
theorem lamP_by {sc scope : Scope} {p : Str} (h : lamPB sc scope p = true) : LamP sc scope p := by
  unfold lamPB at h
  simp only [Bool.and_eq_true, Bool.or_eq_true, Bool.not_eq_true', decide_eq_true_eq, decide_eq_false_iff_not, List.all_eq_true] at h
  obtain ⟨a1, a2, a3, a4, a5⟩ := h
  exact ⟨a1, a2, a3, a4, fun y hy e => (a5 y hy).1.elim (fun z => absurd e z) id, fun y hy => (a5 y hy).2.1, fun y hy e => (a5 y hy).2.2.elim (fun z => absurd e z) id⟩
section
variable {X : Cx} {pins : List (Addr × Obj)} {σ : L2.St} {H : Hp} {s : Shared} {scope : Scope} {p : Str}
theorem LamP.bound (L : LamP X.env.scope scope p) (ok : X.Ok) : ∀ y ∈ scope.names, y.2 = .free → ∃ c, X.env.cells.lookup y.1 = some c := fun y hy e =>
  (L.cap y hy e).elim (fun z => ok.has _ (.inl z)) fun z => ok.has _ (.inr z)
theorem lam_enter {A : Around} {outer : List Env} {E : XK} {f c' : Addr} {h₁ : Heap} {tk i : Nat} {v : V} {u : Value} (I : Inv X pins σ H s) (L : LamP X.env.scope scope p) (hnd : X.N.Nodup) (hp : X.N[i]? = some p) (rv : RelV v u)
    (e0 : Env0 X.prog X.w X.K X.mg X.base A outer s H) (hd : A.handled = none) (hns : h₁.Ns s.heap.objs.size fun y => ([(p, u)] : List (Str × Value)).reverse.lookup y) (kp : ∀ b o, s.heap.get? b = some o → h₁.get? b = some o) :
    Inv (lamCx X A outer s H E scope f c') [] (σ.set i (some v)) H { s with heap := h₁, toks := tk } := by
  have hb := L.bound I.ok
  have back : ∀ {y c}, (cloFrom X.env.cells scope.names []).lookup y = some c → X.env.cells.lookup y = some c := fun {y c} e => by
    rcases cloFrom_mem (PySem.mem_of_lookup e) with z | ⟨z1, z2⟩
    · cases z
    · obtain ⟨c1, hc⟩ := hb _ z1 rfl
      have hc2 : X.env.cells.lookup y = some c1 := hc
      have : c = c1 := by
        rw [z2, hc2] <;> rfl
      rw [this]
      exact hc2
  have find : ∀ {y}, scope.names.lookup y = some .free → ∃ c, (cloFrom X.env.cells scope.names []).lookup y = some c := fun {y} z =>
    mem_lookup (cloFrom_has (cells := X.env.cells) (acc := []) (show (y, NameKind.free) ∈ scope.names from PySem.mem_of_lookup z))
  have cellS : ∀ {c : Addr} {x : Option Value}, s.heap.IsCell c x → h₁.IsCell c x := fun ⟨o, ho, hd⟩ => ⟨o, kp _ _ ho, hd⟩
  have none_ex : ∀ b : Addr, b ∉ (lamCx X A outer s H E scope f c').ex := fun b z => (nomatch (show b ∈ ([] : List Addr) from z))
  refine ⟨⟨e0.mod, L.kind, rfl, rfl, Nat.le_refl _, fun y z c q1 q2 => I.ok.inj y z c (back q1) (back q2), fun y hy => ?_, fun y c z _ => (nomatch (show false = true from z)), fun _ => hd, Around.frames_deeper e0.frames, .inr ⟨rfl, rfl⟩, fun b z => absurd z (none_ex b), e0.bs, e0.bsz,
      fun b _ _ => none_ex b, fun b z => absurd z (none_ex b), e0.funs, e0.frf⟩, rfl, e0.bare, Un.kept kp, ⟨_, hns, fun j y x q1 q2 q3 => ?_⟩, fun y c e => ?_, e0.hok.fresh (Nat.le_refl _), fun y c e => I.freeC y c (back e), fun q hq => (nomatch (show q ∈ ([] : List (Addr × Obj)) from hq)), e0.hok.kept kp, by rw [List.length_set]; exact I.len⟩
  · have hy : scope.names.lookup y = some .cell ∨ scope.names.lookup y = some .free := hy
    exact hy.elim (fun z => absurd rfl (L.cel _ (PySem.mem_of_lookup z))) find
  · have q3 : Vis scope y := q3
    by_cases hy : y = p
    · subst hy
      have hj := nodup_ix hnd (show X.N[j]? = some y from q1) hp
      subst hj
      have hlt : j < σ.length := by rw [I.len]; exact (List.getElem?_eq_some_iff.mp hp).1
      rw [List.getElem?_set_self hlt] at q2
      cases q2
      exact ⟨u, rv, .inl ⟨L.par, by simp⟩⟩
    · have hj : i ≠ j := fun z => hy (Option.some.inj ((show X.N[j]? = some y from q1).symm.trans (by rw [← z]; exact hp)))
      rw [List.getElem?_set_ne hj] at q2
      rcases q3 with z | z | z
      · exact absurd (L.one _ (PySem.mem_of_lookup z) rfl) hy
      · exact absurd rfl (L.cel _ (PySem.mem_of_lookup z))
      · obtain ⟨m, hn, hl⟩ := I.loc
        have cp := L.cap _ (PySem.mem_of_lookup z) rfl
        obtain ⟨w', r, q⟩ := hl j y x q1 q2 (cp.elim (fun k => .inr (.inl k)) fun k => .inr (.inr k))
        obtain ⟨c2, h2⟩ := find z
        refine ⟨w', r, .inr ⟨.inr z, c2, h2, ?_⟩⟩
        have c1 := back h2
        rcases q with ⟨k', _⟩ | ⟨_, c3, e', k⟩
        · have k' : X.env.scope.names.lookup y = some .local := k'
          exact cp.elim (fun k2 => by rw [show X.env.scope.names.lookup y = _ from k2] at k'; cases k') fun k2 => by rw [show X.env.scope.names.lookup y = _ from k2] at k'; cases k'
        · rw [c1] at e'
          cases e'
          exact cellS k
  · obtain ⟨w', z⟩ := I.cell y c (back e)
    exact ⟨w', cellS z⟩
theorem lam_call {A : Around} {f c' : Addr} {pm ctv : Value} {params : Arguments} {body : Expr} {i k : Nat} {v : V} {u : Value} {tb : TE} {Q : VK} (I : Inv X pins σ H s) (L : LamP X.env.scope scope p) (hnd : X.N.Nodup) (hp : X.N[i]? = some p) (rv : RelV v u)
    (e0 : Env0 X.prog X.w X.K X.mg X.base A X.stack s H) (hr : Room (k + 1) A) (hf : s.heap.get? f = some (PySem.W.kla_obj "<lambda>" (X.env.qual ++ "<lambda>") params body scope (cloFrom X.env.cells scope.names []) pm c' ctv)) (hc : H c' = some (CodeO c' (X.env.qual ++ "<lambda>")))
    (hbind : ∀ (q : Str) (cl : List (Str × Addr)) (pm cv ctv u : Value), bindArgs (PySem.W.kla_fn "<lambda>" q params body scope cl pm cv ctv) ⟨[u], []⟩ = pure [(p, u)])
    (hbody : PE (lamCx X A X.stack s H C8.E0 scope f c').nox body tb) (ht : tb (σ.set i (some v)) H Q) :
    codeAny (model X.prog X.w) A (.call (.ref f) ⟨[u], []⟩) (CR C8.CX0 X.stack X.prog X.w H s Q C8.E0) s := by
  obtain ⟨⟨oc, vs, t, hoc, hdc, hvc⟩, _, _⟩ := I.hok c' _ hc
  refine PySem.W.kla_callFunE hr.depth hf rfl L.co L.gen rfl ⟨c', oc, vs, t, rfl, hoc, hdc, hvc⟩ ?_
  rw [hbind]
  refine wpAny_pure (wpAny_newFunctionEnv (fun y hy => L.cel y hy) (fun y hy => ?_) (fun h₁ hns hsb => ⟨I.nolimit.fresh _ hsb, ?_⟩) L.kind)
  · rw [List.mem_singleton.mp hy]
    exact L.par
  · show codeAny _ _ (.expr body (lamEnv X scope s.heap.objs.size f c')) _ _
    have kp : ∀ b o, s.heap.get? b = some o → h₁.get? b = some o := fun b o e => hsb.extBut b o (Nat.ne_of_lt (Heap.lt_size e)) (Heap.get?_push_of_some _ e)
    have J := lam_enter (E := C8.E0) (f := f) (c' := c') (tk := s.toks + [(p, u)].length) I L hnd hp rv e0 hr.hd hns kp
    refine PySem.W.kla_codeExpr (wpAny_mono (hbody.run [] _ _ H Q (J.wish _) ht) (fun v s' hq => ?_) fun e s' hq => (show False from hq).elim)
    obtain ⟨w', H', J', r', q⟩ := hq
    exact ⟨w', H', J'.os, J'.bare, J'.base, J'.hok, r', q⟩
theorem lam_new {c P : Addr} {params : Arguments} {body : Expr} {pos : Pos} {E : Value → Shared → Prop} {Q : Value → Shared → Prop} (I : Inv X pins σ H s) (TB : TabB X.base X.mg c P) (hcode : X.env.code = .ref c)
    (hm : (P, X.env.qual ++ "<lambda>") ∈ PF.lamT X.K) (hT : Tabs (PF.lamT X.K) H) (hdef : defaultsOf params X.env = ([], [])) (hfree : ∀ y ∈ scope.names, y.2 = .free → ∃ c, X.env.cells.lookup y.1 = some c)
    (h : ∀ (f c' : Addr) (pm ctv : Value) (H1 : Hp) (s' : Shared), Inv X pins σ H1 s' → PF.SameT X.K H H1 → (∀ b o, b ≠ P → H b = some o → H1 b = some o) →
      s'.heap.get? f = some (PySem.W.kla_obj "<lambda>" (X.env.qual ++ "<lambda>") params body scope (cloFrom X.env.cells scope.names []) pm c' ctv) → H1 f = none → f ∉ frs X.stack → H1 c' = some (CodeO c' (X.env.qual ++ "<lambda>")) → Q (.ref f) s') :
    wpAny (model X.prog X.w) X.A (eval (.Lambda params body scope pos) X.env) Q E s := by
  obtain ⟨ps, hP, htr, hall⟩ := hT _ hm
  refine PySem.W.kla_eval hdef ?_
  have bP : s.heap.BuiltinsAt X.mg P := TB.bm.keeps I.bk
  have hP' : s.heap.get? P = some { cls := .none, data := .fields ps } := I.hok P _ hP
  have out : ∀ f, s.heap.objs.size ≤ f → f ∉ frs X.stack := fun f hf z => by
    rcases List.mem_cons.mp (I.stkSub _ z) with e | e
    · exact absurd (Nat.lt_of_lt_of_le (e ▸ I.lt) hf) (Nat.lt_irrefl _)
    · exact I.nofs hf e
  cases hc : codeAmong pos ps.toList with
  | some cv =>
    obtain ⟨c', e, hco⟩ := hall pos cv hc
    subst e
    refine PySem.W.kla_makeFunctionHit (mg := X.mg) (c := c) (P := P) (ps := ps) (closure_ok hfree) I.ok.glob (I.mod.glob.keeps I.bk) hcode (TB.code.keeps I.bk) hP' htr hc bP fun ctv h' tk hx hsz => ?_
    refine h h'.objs.size c' ((X.mg "__name__").getD .none) ctv H _ ?_ (PF.SameT.refl H) (fun _ _ _ z => z) (Heap.get?_push_size _ rfl) (I.hok.fresh hsz) (out _ hsz) hco
    exact I.kept fun b o e => Heap.get?_push_of_some _ (hx b o e)
  | none =>
    refine PySem.W.kla_makeFunction (mg := X.mg) (c := c) (P := P) (ps := ps) (closure_ok hfree) I.ok.glob (I.mod.glob.keeps I.bk) hcode (TB.code.keeps I.bk) hP' htr hc TB.gP bP fun c' ctv h' tk hx hge hlt hrec htb => ?_
    obtain ⟨c2, oc, vs, t, e2, hoc, hd, hv⟩ := hrec
    cases e2
    have big : s.heap.objs.size ≤ h'.objs.size := Nat.le_trans hge (Nat.le_of_lt hlt)
    have nC : H c' = none := I.hok.fresh hge
    have nPc : P ≠ c' := ne_of_none hP nC
    have atP : upd (upd H P (.tbl (ps ++ #[rawInt pos.line, rawInt pos.col, .ref c']))) c' (CodeO c' (X.env.qual ++ "<lambda>")) P = some (.tbl (ps ++ #[rawInt pos.line, rawInt pos.col, .ref c'])) := by rw [upd_ne nPc, upd_same]
    have at_ : ∀ b, b ≠ P → b ≠ c' → upd (upd H P (.tbl (ps ++ #[rawInt pos.line, rawInt pos.col, .ref c']))) c' (CodeO c' (X.env.qual ++ "<lambda>")) b = H b := fun b z1 z2 => by rw [upd_ne z2, upd_ne z1]
    have keep : ∀ b o, H b = some o → PF.NT o → upd (upd H P (.tbl (ps ++ #[rawInt pos.line, rawInt pos.col, .ref c']))) c' (CodeO c' (X.env.qual ++ "<lambda>")) b = some o := fun b o e n => by
      rw [at_ b (fun z => n ps (Option.some.inj (e.symm.trans (by rw [z]; exact hP)))) (ne_of_none e nC)]
      exact e
    have ntC : PF.NT (CodeO c' (X.env.qual ++ "<lambda>")) := fun qs => codeO_ne qs
    have ntA : ∀ a q, PF.NT (CodeO a q) := fun a q qs => codeO_ne qs
    have eL : (ps ++ #[rawInt pos.line, rawInt pos.col, .ref c']).toList = ps.toList ++ [rawInt pos.line, rawInt pos.col, .ref c'] := by simp
    refine h h'.objs.size c' ((X.mg "__name__").getD .none) ctv _ _ (inv_table (t' := tk) (more := #[rawInt pos.line, rawInt pos.col, .ref c']) (h' := h'.push (PySem.W.kla_obj "<lambda>" (X.env.qual ++ "<lambda>") params body scope (cloFrom X.env.cells scope.names []) ((X.mg "__name__").getD .none) c' ctv)) I hP
      (fun b o hb e => Heap.get?_push_of_some _ (hx b o hb e)) (Heap.get?_push_of_some _ htb) hge ⟨oc, vs, t, Heap.get?_push_of_some _ hoc, hd, hv⟩) ⟨keep, fun b hb => ?_, fun tt p hp => ?_⟩ (fun b o z e => by rw [at_ b z (ne_of_none e nC)]; exact e) (Heap.get?_push_size _ rfl) ?_ (out _ big) upd_same
    · by_cases z1 : b = c'
      · rw [z1, upd_same]
        exact fun z => (nomatch z)
      · by_cases z2 : b = P
        · rw [z2, atP]
          exact fun z => (nomatch z)
        · rw [at_ b z2 z1]
          exact hb
    · by_cases hb : p.1 = P
      · have hq : p.2 = X.env.qual ++ "<lambda>" := PF.lamT_one hm (show (P, p.2) ∈ PF.lamT X.K by rw [← hb]; exact hp)
        rw [hq, hb]
        refine ⟨_, atP, by rw [eL]; exact PySem.TriplesOk_snoc _ _ _ _ htr, fun p' cv hcv => ?_⟩
        rw [eL] at hcv
        rcases among_app _ htr hcv with z | z
        · obtain ⟨c0, q1, q2⟩ := hall p' cv z
          exact ⟨c0, q1, keep _ _ q2 (ntA _ _)⟩
        · exact ⟨c', z, upd_same⟩
      · obtain ⟨ps', a1, a2, a3⟩ := tt p hp
        refine ⟨ps', by rw [at_ _ hb (ne_of_none a1 nC)]; exact a1, a2, fun p' cv hcv => ?_⟩
        obtain ⟨c0, q1, q2⟩ := a3 p' cv hcv
        exact ⟨c0, q1, keep _ _ q2 (ntA _ _)⟩
    · rw [at_ _ (Nat.ne_of_gt (Nat.lt_of_lt_of_le (Heap.lt_size hP') big)) (Nat.ne_of_gt hlt)]
      exact I.hok.fresh big
end
end LK
namespace LK
open PySem PySem.Spec PyProof.Rows L2
structure Fre (X : Cx) (pins : List (Addr × Obj)) (b : Addr) : Prop where
  s0 : X.s_0.heap.objs.size ≤ b
  fr : b ∉ frs X.stack
  loc : b ≠ X.env.locals
  cel : ∀ x c, X.env.cells.lookup x = some c → c ≠ b
  pin : ∀ p ∈ X.pn ++ pins, p.1 ≠ b
section
variable {X : Cx} {pins : List (Addr × Obj)} {σ : L2.St} {H : Hp} {s : Shared}
theorem Fre.of {b : Addr} (I : Inv X pins σ H s) (hb : s.heap.objs.size ≤ b) : Fre X pins b where
  s0 := Nat.le_trans I.sz hb
  fr := fun z => by
    rcases List.mem_cons.mp (I.stkSub _ z) with e | e
    · exact absurd (Nat.lt_of_lt_of_le (e ▸ I.lt) hb) (Nat.lt_irrefl _)
    · exact I.nofs hb e
  loc := fun z => absurd (Nat.lt_of_lt_of_le (z ▸ I.lt) hb) (Nat.lt_irrefl _)
  cel := fun x c e z => by
    obtain ⟨v, o, ho, _⟩ := I.cell x c e
    exact absurd (Nat.lt_of_lt_of_le (Heap.lt_size ho) (z ▸ hb)) (Nat.lt_irrefl _)
  pin := fun p hp z => absurd (Nat.lt_of_lt_of_le (Heap.lt_size (I.pin p hp).1) (z ▸ hb)) (Nat.lt_irrefl _)
theorem turnedL {h' : Heap} {t' : Nat} {ch : List Addr} (I : Inv X pins σ H s) (hf : ∀ b ∈ ch, Fre X pins b) (hn : ∀ b ∈ ch, H b = none) (k : ∀ b o, b ∉ ch → s.heap.get? b = some o → h'.get? b = some o) : Inv X pins σ H { s with heap := h', toks := t' } := by
  have out : ∀ b u, H b = some u → b ∉ ch := fun b u e z => by
    rw [hn b z] at e
    cases e
  refine I.step (g' := s.gens) (d' := s.drawn) (ch := ch) (fun b hb => ⟨.inr (hf b hb).s0, (hf b hb).loc, fun x c e => (hf b hb).cel x c e, (hf b hb).pin⟩) (fun b o _ _ hc e _ => k b o hc e) (fun b o _ _ hc e _ => ⟨o.slots, k b o hc e⟩) (fun _ _ _ _ n => n) (fun b o hc e => ⟨o, k b o hc e⟩)
    (fun _ _ e => e) (fun _ _ _ e => e) (fun b ps e => ⟨#[], by rw [e]; simp⟩) (fun m hm => ?_) (fun b u e => ?_) I.bare
  · obtain ⟨o, es, ep, ho, r⟩ := hm
    exact ⟨o, es, ep, k _ o (fun z => (hf _ z).loc rfl) ho, r⟩
  · exact (I.hok b u e).stay (fun c v hc q => k c v (hc.elim (fun z => z ▸ out b u e) fun z => out c _ z) q) (fun _ q => q) fun _ _ q => q
end
def EmptyAt (a : Addr) (e1 : Nat) : HO := .ext fun h => h.get? a = some (seqObj "list" #[] e1)
theorem emptyAt_own {H : Hp} {a b : Addr} {e1 : Nat} (h : H a = some (EmptyAt b e1)) : PF.OwnN H a := .inr ⟨_, h, fun _ z => (by cases z), fun c q z => by
  unfold LamX.CodeO EmptyAt at z
  injection z with z
  have h1 := congrFun z { objs := Array.replicate (c + 1) { cls := .type "code", data := .fields #[.none, .str q 0] } }
  have h2 : ({ objs := Array.replicate (c + 1) { cls := .type "code", data := .fields #[.none, .str q 0] } } : Heap).get? b = some (seqObj "list" #[] e1) := by
    rw [← h1]
    exact ⟨_, _, 0, by simp [Heap.get?]; rfl, rfl, rfl⟩
  by_cases ha : b < c + 1
  · simp [Heap.get?, Array.getElem?_replicate, ha] at h2
  · simp [Heap.get?, Array.getElem?_replicate, ha] at h2⟩
section
variable {prog : Program} {w : World} {A : Around} {E : Value → Shared → Prop} {s : Shared} {a kS : Addr} {b : Bool} {vs : List Value} {keys : Array Value} {e e1 : Nat} {P : PySem.Fin → Shared → Prop}
def Done (P : PySem.Fin → Shared → Prop) (s : Shared) (kS a : Addr) (out : List Value) : Prop :=
  ∀ h1 h2 tk c1 c2, Heap.SameBut kS s.heap h1 → h1.get? kS = some (seqObj "list" #[] c1) → Heap.SameBut a h1 h2 → h2.get? a = some (seqObj "list" out.toArray c2) → P (.done (.ret .none)) { s with heap := h2, toks := tk }
theorem tail_by {st : SortSt} {out : List Value} (nk : s.heap.get? kS = some (seqObj "list" keys e)) (na : s.heap.get? a = some (seqObj "list" #[] e1)) (ne : kS ≠ a) (hks : keys.size ≤ sizeLine) (hos : out.length ≤ sizeLine) (hfl : failedOf st = none)
    (ho : (if b = true then ((arrOf st).map (·.2)).reverse else (arrOf st).map (·.2)) = out.toArray) (h : Done P s kS a out) : wpAny (model prog w) A (ksk_tail a b e1 (.ref kS) st) P E s := by
  have q1 := Heap.SameBut.update s.heap kS (Obj.mapSeq fun _ => (#[] : Array Value))
  obtain ⟨c1, g1⟩ : ∃ c1, (s.heap.update kS (Obj.mapSeq fun _ => (#[] : Array Value))).get? kS = some (seqObj "list" #[] c1) := ⟨_, get?_update_seq nk fun _ => #[]⟩
  have ga : (s.heap.update kS (Obj.mapSeq fun _ => (#[] : Array Value))).get? a = some (seqObj "list" #[] e1) := (q1.2 a ne.symm).trans na
  have q2 := Heap.SameBut.update (s.heap.update kS (Obj.mapSeq fun _ => (#[] : Array Value))) a (Obj.mapSeq fun _ => out.toArray)
  obtain ⟨c2, g2⟩ : ∃ c2, ((s.heap.update kS (Obj.mapSeq fun _ => (#[] : Array Value))).update a (Obj.mapSeq fun _ => out.toArray)).get? a = some (seqObj "list" out.toArray c2) := ⟨_, get?_update_seq ga fun _ => out.toArray⟩
  unfold ksk_tail
  try dsimp only
  rw [ho]
  refine wpAny_bind (listUpdate_at nk rfl (wpAny_bind (wpAny_letGo (wpAny_bind (seqEpoch_at ga rfl (wpAny_bind (listUpdate_at ga rfl ?_ (Nat.zero_le _) (by rw [List.size_toArray]; exact Nat.le_succ_of_le hos))))))) hks (Nat.zero_le _))
  rw [hfl]
  simp only [bne_self_eq_false, Bool.false_eq_true, if_false]
  exact wpAny_pure (h _ _ _ c1 c2 q1 g1 q2 g2)
theorem end_by {κ : PyProof.Rows.KeyKind} (nk : s.heap.get? kS = some (seqObj "list" keys e)) (na : s.heap.get? a = some (seqObj "list" #[] e1)) (ne : kS ≠ a) (S : PySem.W.SortsAt prog w A s κ keys.toList) (hsz : keys.size = vs.length) (hZ : vs.length ≤ sizeLine)
    (h : Done P s kS a (PySem.W.sortVals κ b keys.toList vs)) : wpAny (model prog w) A (ksk_end a b vs.toArray e1 (.ref kS) keys) P E s := by
  obtain ⟨kd, h1, h2⟩ := S.kind
  have hkl : keys.toList.length = vs.length := by rw [Array.length_toList]; exact hsz
  have hK : PyProof.Rows.KeysOf κ (keys.zip vs.toArray) := PySem.W.keysOf_zip S.keys
  have hol := PySem.W.sortVals_length (κ := κ) b hkl
  have pm : (if b = true then (keys.zip vs.toArray).reverse else keys.zip vs.toArray).Perm (keys.zip vs.toArray) := by
    cases b with
    | false => exact Array.Perm.refl _
    | true => exact Array.perm_iff_toList_perm.mpr (by rw [if_pos rfl, Array.toList_reverse]; exact List.reverse_perm _)
  have psz : (if b = true then (keys.zip vs.toArray).reverse else keys.zip vs.toArray).size = vs.length := by
    rw [pm.size_eq, Array.size_zip, hsz, List.size_toArray, Nat.min_self]
  have fin : ∀ z : SortSt, (arrOf z).Perm (if b = true then (keys.zip vs.toArray).reverse else keys.zip vs.toArray) → SortedToK κ (arrOf z) (if b = true then (keys.zip vs.toArray).reverse else keys.zip vs.toArray).size →
      Stable κ (arrOf z) (if b = true then (keys.zip vs.toArray).reverse else keys.zip vs.toArray) → (if b = true then ((arrOf z).map (·.2)).reverse else (arrOf z).map (·.2)) = (PySem.W.sortVals κ b keys.toList vs).toArray := fun z y1 y2 y3 => by
    have r := congrArg List.toArray (PySem.W.sort_out (rev := b) (keys := keys) (items := vs.toArray) (xs := arrOf z) (κ := κ) hK y1 y2 y3)
    rw [Array.toArray_toList] at r
    exact r
  have rvs : ∀ t : Sem PySem.Fin, wpAny (model prog w) A t P E s → wpAny (model prog w) A (if b = true then (do let _ ← rule "list.sort.reverse"; t) else t) P E s := fun t ht => by
    split
    · exact wpAny_bind (wpAny_rule ht)
    · exact ht
  unfold ksk_end
  try dsimp only
  refine rvs _ ?_
  by_cases hl2 : vs.toArray.size < 2
  · rw [if_pos hl2, if_pos hl2]
    refine wpAny_bind (wpAny_pure ?_)
    rw [StateT.run_pure]
    refine wpAny_bind (wpAny_pure ?_)
    try dsimp only
    refine tail_by (st := SortSt.mk' general' (if b = true then (keys.zip vs.toArray).reverse else keys.zip vs.toArray) #[] 7 none) nk na ne (by rw [hsz]; exact hZ) (by rw [hol]; exact hZ) rfl (fin _ (Array.Perm.refl _) (fun i j hij hj => ?_) (Stable.refl _)) h
    rw [psz] at hj
    rw [List.size_toArray] at hl2
    have hij2 : i = j := by omega
    subst hij2
    exact KeyOrd.kle_refl _
  · rw [if_neg hl2, if_neg hl2]
    rw [List.size_toArray] at hl2
    refine wpAny_bind (h2 (by omega) _ ?_)
    refine wpAny_bind (wpAny_mono (H.wpS_sortRunsSt (κ := κ) (kd := kd) (a₀ := if b = true then (keys.zip vs.toArray).reverse else keys.zip vs.toArray) (st := SortSt.mk' kd (if b = true then (keys.zip vs.toArray).reverse else keys.zip vs.toArray) #[] 7 none)
      (Q := fun _ z => failedOf z = none ∧ (if b = true then ((arrOf z).map (·.2)).reverse else (arrOf z).map (·.2)) = (PySem.W.sortVals κ b keys.toList vs).toArray) h1 (hK.perm pm) ⟨Array.Perm.refl _, rfl, rfl⟩ rfl (Stable.refl _) (by rw [psz]; omega) fun z y1 y2 y3 y4 => ⟨y2, fin z y1 y3 y4⟩) ?_ fun _ _ z => z)
    rintro ⟨⟨⟩, z⟩ s' ⟨rfl, hf, hz⟩
    try dsimp only at hz ⊢
    exact tail_by nk na ne (by rw [hsz]; exact hZ) (by rw [hol]; exact hZ) hf hz h
end
end LK
namespace PF
open PySem PySem.Spec PyProof.Rows L2 LK
theorem readsAll_each {h : Heap} : ∀ {its : List Value} {ds : List D} {as : List Addr}, ReadsAll h its ds as → PySem.W.EachIs (fun (v : Value) (d : D) => ∃ as, Reads h v d as) its ds
  | _, _, _, .nil => .nil
  | _, _, _, .cons r rs => .cons ⟨_, r⟩ (readsAll_each rs)
section
variable {X : Cx} {pins : List (Addr × Obj)} {σ : L2.St} {H G : Hp} {s : Shared}
abbrev KTurn (X : Cx) (A : Around) (H' : Hp) (s' : Shared) (f : Addr) (G' : Hp) (u : Value) (d : D) : Prop :=
  codeAny (model X.prog X.w) A (.call (.ref f) ⟨[u], []⟩) (CR C8.CX0 X.stack X.prog X.w H' s' (fun v H2 => ∃ G2, Step X.K H' G' H2 G2 ∧ Rp X.K G2 v d) C8.E0) s'
theorem kturn_wp {A : Around} {H' : Hp} {s' : Shared} {f : Addr} {G' : Hp} {u : Value} {d : D} (t : KTurn X A H' s' f G' u d) :
    wpAny (model X.prog X.w) A (call (.ref f) [u]) (fun u2 s2 => CE X.stack X.prog X.w H' s' (fun v H2 => ∃ G2, Step X.K H' G' H2 G2 ∧ Rp X.K G2 v d) u2 s2) (fun _ _ => False) s' :=
  wpAny_call (codeAny_mono t fun r s2 hq => by
    cases r with
    | error e => exact (show False from hq).elim
    | ok fl =>
      cases fl with
      | ret u => exact hq
      | next => exact False.elim hq
      | brk => exact False.elim hq
      | cont => exact False.elim hq)
theorem inv_of {H' H2 : Hp} {s' s2 : Shared} {v2 : V} {u2 : Value} (I : Inv X pins σ H' s') (os : s2.os = s'.os) (bare : AllBare s2.gens) (un : Un (frs X.stack) [] H' H2 s'.heap s2.heap) (hok : HOk X.prog X.w H2 s2.heap) (r : RelV v2 u2) : Inv X pins σ H2 s2 := by
  obtain ⟨v3, H3, I3, _, e1, e2⟩ := I.after (Q := fun v H => v = v2 ∧ H = H2) ⟨v2, H2, os, bare, un, hok, r, rfl, rfl⟩
  subst e2
  exact I3
structure KLoop (X : Cx) (pins : List (Addr × Obj)) (σ : L2.St) (H G : Hp) (f : Addr) (fo : Obj) (a kS : Addr) (e1 : Nat) (kz : List D) (j : Nat) (s' : Shared) (H' G' : Hp) (ks : List V) : Prop where
  I : Inv X pins σ H' s'
  st : Step X.K H G H' G'
  ha : H' a = some (EmptyAt a e1)
  hk : H' kS = some (.lst ks)
  ga : G' a = none
  gk : G' kS = none
  hf : s'.heap.get? f = some fo
  fn : H' f = none
  rs : RpAll X.K G' ks (kz.take j)
theorem sorted_by {l f : Addr} {us : List V} {its : List Value} {kz : List D} {fo : Obj} {Q : VK} {E : Value → Shared → Prop} (I : Inv X pins σ H s) (gh : Same G H) (hl : s.heap.IsList l its.toArray) (rv : Vals us its) (hlen : us.length = kz.length) (hZ : kz.length ≤ sizeLine)
    (hal : PySem.W.AllAlike kz) (hsk : PySem.W.Sortable kz) (hcl : PyData.canLayAll0 kz = true) (hu : ∀ d, d ∈ kz → X.A.units + 2 + d.depth < cLine) (hf : s.heap.get? f = some fo) (hfn : H f = none) (hfr : f ∉ frs X.stack)
    (turn : ∀ (j : Nat) (x : V) (u : Value) (d : D) (H' G' : Hp) (s' : Shared), us[j]? = some x → RelV x u → kz[j]? = some d → Inv X pins σ H' s' → Step X.K H G H' G' → s'.heap.get? f = some fo → KTurn X X.A.in1.in1 H' s' f G' u d)
    (q : ∀ (D : Addr) (H' G' : Hp), Step X.K H G (upd H' D (.lst (((us.zip kz).mergeSort (PySem.W.dataLe false fun b => b.2)).map (·.1)))) G' → H D = none → G' D = none → Q (.ref D) (upd H' D (.lst (((us.zip kz).mergeSort (PySem.W.dataLe false fun b => b.2)).map (·.1))))) :
    wpAny (model X.prog X.w) X.A (call (.builtin "sorted") [.ref l] [(Str.ofString "key", .ref f)]) (EP X pins σ Q) E s := by
  have flt : f < s.heap.objs.size := Heap.lt_size hf
  have hvl : its.length = kz.length := by rw [← rv.length]; exact hlen
  have hZ2 : its.length ≤ sizeLine := by rw [hvl]; exact hZ
  refine PySem.W.sorted_of_sort hl hZ2 (ksk_s1 _ _) (fun _ => ksk_l1 _ _) fun E' => ?_
  rw [ksk_t1]
  have c0 := PySem.W.copyHeap_at s.heap its
  have sz0 : (PySem.W.copyHeap s.heap its).objs.size = s.heap.objs.size + 2 := by
    unfold PySem.W.copyHeap
    rw [size_push', Heap.size_update, size_push']
  obtain ⟨e1, c1⟩ : ∃ e1, ((PySem.W.copyHeap s.heap its).update (s.heap.objs.size + 1) (Obj.mapSeq fun _ => (#[] : Array Value))).get? (s.heap.objs.size + 1) = some (seqObj "list" #[] e1) := ⟨_, get?_update_seq c0 fun _ => #[]⟩
  have old1 : ∀ b o, s.heap.get? b = some o → ((PySem.W.copyHeap s.heap its).update (s.heap.objs.size + 1) (Obj.mapSeq fun _ => (#[] : Array Value))).get? b = some o := fun b o z =>
    (Heap.get?_update_ne _ _ _ _ (Nat.ne_of_lt (Nat.lt_succ_of_lt (Heap.lt_size z)))).trans (PySem.W.copyHeap_old z)
  generalize hh1 : (PySem.W.copyHeap s.heap its).update (s.heap.objs.size + 1) (Obj.mapSeq fun _ => (#[] : Array Value)) = h1 at c1 old1
  have sz1 : h1.objs.size = s.heap.objs.size + 2 := by rw [← hh1, Heap.size_update, sz0]
  generalize ha : s.heap.objs.size + 1 = a at *
  have hA0 : H a = none := I.hok.fresh (by omega)
  have szT : (h1.push (seqObj "tuple" its.toArray 0)).objs.size = s.heap.objs.size + 3 := by rw [size_push', sz1]
  have hkS0 : H (s.heap.objs.size + 3) = none := I.hok.fresh (by omega)
  unfold ksk_tree
  refine wpAny_bind (listItems_at c0 rfl (wpAny_bind (listUpdate_at c0 rfl ?_ (by rw [List.size_toArray]; exact hZ2) (Nat.zero_le _))))
  rw [hh1]
  refine wpAny_bind (seqEpoch_at c1 rfl (wpAny_bind (wpAny_newTuple (wpAny_bind (wpAny_newList (wpAny_holding ?_) (Nat.zero_le _))) (by show its.length ≤ _; exact hZ2))))
  show wpAny _ _ (ksk_rest a (.ref f) false its.toArray e1 (.ref (h1.push (seqObj "tuple" its.toArray 0)).objs.size)) _ _ { s with heap := (h1.push (seqObj "tuple" its.toArray 0)).push (seqObj "list" #[] 0) }
  rw [szT]
  -- what is there as the first key is made
  have I1 : Inv X pins σ (upd H a (EmptyAt a e1)) { s with heap := h1.push (seqObj "tuple" its.toArray 0), toks := s.toks } := I.laid (fun b o z => Heap.get?_push_of_some _ (old1 b o z)) (by omega) ⟨Heap.get?_push_of_some _ c1, ⟨_, Heap.get?_push_of_some _ c1⟩, fun _ _ z st => st _ z⟩
  have nak : s.heap.objs.size + 3 ≠ a := by omega
  have hkS1 : upd H a (EmptyAt a e1) (s.heap.objs.size + 3) = none := by rw [upd_ne nak]; exact hkS0
  have I2 : Inv X pins σ (upd (upd H a (EmptyAt a e1)) (s.heap.objs.size + 3) (.lst [])) { s with heap := (h1.push (seqObj "tuple" its.toArray 0)).push (seqObj "list" #[] 0), toks := s.toks } := I1.laid (fun b o z => Heap.get?_push_of_some _ z) (by show (h1.push (seqObj "tuple" its.toArray 0)).objs.size ≤ _; omega)
    ⟨Nat.zero_le _, [], 0, .nil, by rw [← szT]; exact Heap.get?_push_size _ rfl⟩
  have fa : f ≠ a := Nat.ne_of_lt (by rw [← ha]; exact Nat.lt_succ_of_lt flt)
  have fk : f ≠ s.heap.objs.size + 3 := Nat.ne_of_lt (Nat.lt_of_lt_of_le flt (Nat.le_add_right _ _))
  have L0 : KLoop X pins σ H G f fo a (s.heap.objs.size + 3) e1 kz 0 { s with heap := (h1.push (seqObj "tuple" its.toArray 0)).push (seqObj "list" #[] 0), toks := s.toks } (upd (upd H a (EmptyAt a e1)) (s.heap.objs.size + 3) (.lst [])) G [] :=
    { I := I2
      st := (Step.new' gh hA0).trans (Step.new' (gh.trans (same_new hA0)) hkS1)
      ha := by rw [upd_ne nak.symm, upd_same]
      hk := upd_same
      ga := (Same.trans gh (Same.refl _) |> fun _ => (by
        cases z : G a with
        | none => rfl
        | some o => rw [gh _ _ z] at hA0; cases hA0))
      gk := by
        cases z : G (s.heap.objs.size + 3) with
        | none => rfl
        | some o => rw [gh _ _ z] at hkS0; cases hkS0
      hf := Heap.get?_push_of_some _ (Heap.get?_push_of_some _ (old1 _ _ hf))
      fn := by rw [upd_ne fk, upd_ne fa]; exact hfn
      rs := by rw [List.take_zero]; exact .nil }
  generalize hkS : s.heap.objs.size + 3 = kS at *
  unfold ksk_rest
  refine wpAny_bind (wpAny_rule ?_)
  first | rw [List.forIn_toArray] | (rw [← Array.forIn_toList]; simp only [List.toList_toArray]) | rw [← Array.forIn_toList]
  refine wpAny_bind (ksk_fold (fun j s' => ∃ H' G' ks, KLoop X pins σ H G f fo a kS e1 kz j s' H' G' ks) its 0 _ ⟨_, _, _, L0⟩ (fun j x s' hx hI => ?_) fun s' hI => ?_)
  · obtain ⟨H', G', ks, L⟩ := hI
    simp only [Nat.zero_add] at L ⊢
    obtain ⟨xv, x1, x2⟩ := vals_back rv j x hx
    have hjl : j < kz.length := by rw [← hvl]; exact (List.getElem?_eq_some_iff.mp hx).1
    have hd : kz[j]? = some kz[j] := List.getElem?_eq_getElem hjl
    refine wpAny_bind (wpAny_attempt (wpAny_mono (kturn_wp (turn j xv x _ H' G' s' x1 x2 hd L.I L.st L.hf)) (fun v s2 he => ?_) fun _ _ z => z.elim))
    obtain ⟨v2, H2, os, bare, un, hok, r2, G2, st2, rp2⟩ := he
    have J := inv_of L.I os bare un hok r2
    have k2 := st2.same.lst L.hk
    obtain ⟨kz1, kits, kn, kv, kg⟩ := J.hok kS _ k2
    have nt : NT (EmptyAt a e1) := fun _ z => (by cases z)
    have a2 := st2.same.at' _ _ L.ha nt
    have ga2 : G2 a = none := by rw [st2.old a (some_ne L.ha)]; exact L.ga
    have gk2 : G2 kS = none := by rw [st2.old kS (some_ne L.hk)]; exact L.gk
    have hksl : ks.length = j := by
      have := L.rs.length
      rw [List.length_take] at this
      omega
    have hkl : kits.toArray.size = j := by rw [List.size_toArray, ← kv.length, hksl]
    have q1 := Heap.SameBut.update s2.heap kS (Obj.mapSeq (·.push v))
    obtain ⟨c2, g2⟩ : ∃ c2, (s2.heap.update kS (Obj.mapSeq (·.push v))).get? kS = some (seqObj "list" (kits.toArray.push v) c2) := ⟨_, get?_update_seq kg (·.push v)⟩
    refine wpAny_bind (listUpdate_at kg rfl (wpAny_pure ⟨rfl, upd H2 kS (.lst (ks ++ [v2])), G2, ks ++ [v2], ?_⟩) (by rw [hkl]; omega) (by rw [Array.size_push, hkl]; omega))
    have hn : s'.heap.get? f = some fo := L.hf
    refine ⟨J.write (x := kS) (e := kS) (o := .lst (ks ++ [v2])) (by rw [k2]; exact True.intro) (.inl rfl) (fun b o hb z => (q1.2 b hb).trans z) ⟨_, g2⟩ ⟨by rw [List.length_append, hksl]; show j + 1 ≤ _; omega, kits ++ [v], c2, kv.append (.cons r2 .nil), by rw [g2]; simp [seqObj]⟩,
      (L.st.trans st2).updD hkS0 gk2 (OwnN.lst k2), ?_, upd_same, ga2, gk2, ?_, ?_, ?_⟩
    · rw [upd_ne nak.symm]
      exact a2
    · show (s2.heap.update kS (Obj.mapSeq (·.push v))).get? f = some fo
      exact (q1.2 f fk).trans (un.keep f fo L.hf L.fn hfr (by simp))
    · rw [upd_ne fk]
      exact un.free f fo L.hf L.fn (by simp)
    · have ek : kz.take (j + 1) = kz.take j ++ [kz[j]] := by rw [List.take_add_one, hd]; rfl
      rw [ek]
      exact (RpAll.mono st2.gg L.rs).append (.cons rp2 .nil)
  · obtain ⟨H', G', ks, L⟩ := hI
    have et : kz.take (0 + its.length) = kz := List.take_of_length_le (by omega)
    have rs := L.rs
    rw [et] at rs
    obtain ⟨kz1, kits, kn, kv, kg⟩ := L.I.hok kS _ L.hk
    obtain ⟨ag, _, _⟩ := L.I.hok a _ L.ha
    obtain ⟨as, rr⟩ := Dp.readsAll L.I _ _ _ ((RpAll.mono L.st.gh rs).dp hcl) kv
    have er := readsAll_each rr
    have hkl : kits.toArray.size = its.length := by rw [List.size_toArray, ← kv.length, rs.length, hvl]
    refine wpAny_bind (listItems_at kg rfl ?_)
    refine end_by (κ := PySem.W.dataKind s'.heap kz) (b := false) kg ag nak (PySem.W.SortsAt.data (A := X.A.in1.in1) (by simpa using er) hal hsk hu) hkl hZ2 ?_
    intro h2 h3 tk d1 d2 q1 g1 q2 g2
    have ko : PySem.W.KeyedOut false ((us.zip kz).map fun b => b.2) its (PySem.W.sortVals (PySem.W.dataKind s'.heap kz) false kits.toArray.toList its) := by
      rw [zip_snd hlen]
      exact ⟨s'.heap, kits.toArray.toList, hal, rfl, by simpa using er⟩
    have eo := PySem.W.keyedOut_each (R := fun (v : Value) (b : V × D) => RelV b.1 v) (bs := us.zip kz) (fun b => b.2) ko (each_vals rv hlen)
    have vo := vals_each eo
    have J1 : Inv X pins σ (upd H' kS (.lst [])) { s' with heap := h2, toks := s'.toks } := L.I.write (x := kS) (e := kS) (by rw [L.hk]; exact True.intro) (.inl rfl) (fun b o hb z => (q1.2 b hb).trans z) ⟨_, g1⟩ ⟨Nat.zero_le _, [], d1, .nil, g1⟩
    have ha1 : upd H' kS (.lst []) a = some (EmptyAt a e1) := by rw [upd_ne nak.symm]; exact L.ha
    have hol : (((us.zip kz).mergeSort (PySem.W.dataLe false fun b => b.2)).map (·.1)).length ≤ sizeLine := by
      rw [List.length_map, List.length_mergeSort, List.length_zip]
      omega
    have J2 := J1.write (t' := tk) (x := a) (e := a) (h' := h3) (o := .lst (((us.zip kz).mergeSort (PySem.W.dataLe false fun b => b.2)).map (·.1))) (by rw [ha1]; exact True.intro) (.inl rfl) (fun b o hb z => (q2.2 b hb).trans z) ⟨_, g2⟩ ⟨hol, _, d2, vo, g2⟩
    refine ⟨rfl, .ref a, _, J2, rfl, q a (upd H' kS (.lst [])) G' ?_ hA0 L.ga⟩
    exact (L.st.updD hkS0 L.gk (OwnN.lst L.hk)).updD hA0 L.ga (emptyAt_own ha1)
end
end PF
namespace PF
open PySem PySem.Spec PyProof.Rows L2 LK LamX
structure LamF (X : Cx) : Prop where
  ex : ∃ c P, TabB X.base X.mg c P ∧ X.env.code = .ref c ∧ (P, X.env.qual ++ "<lambda>") ∈ lamT X.K
def keysL (fb : Den) (ρ : Env) (i : Nat) : List D → Option (List D)
  | [] => some []
  | x :: xs => (fb (ρ.set i (some (.val x)))).bind fun k => (keysL fb ρ i xs).map fun r => k :: r
theorem keysL_len {fb : Den} {ρ : Env} {i : Nat} : ∀ {ds kz : List D}, keysL fb ρ i ds = some kz → ds.length = kz.length
  | [], _, h => by cases h; rfl
  | x :: xs, kz, h => by
    obtain ⟨k, h1, h⟩ := Option.bind_eq_some_iff.mp h
    obtain ⟨r, h2, h3⟩ := Option.map_eq_some_iff.mp h
    subst h3
    rw [List.length_cons, List.length_cons, keysL_len h2]
theorem keysL_get {fb : Den} {ρ : Env} {i : Nat} : ∀ {ds kz : List D}, keysL fb ρ i ds = some kz → ∀ (j : Nat) {x k : D}, ds[j]? = some x → kz[j]? = some k → fb (ρ.set i (some (.val x))) = some k
  | [], _, h, j, x, k, h1, _ => by simp at h1
  | y :: xs, kz, h, j, x, k, h1, h2 => by
    obtain ⟨k0, q1, h⟩ := Option.bind_eq_some_iff.mp h
    obtain ⟨r, q2, q3⟩ := Option.map_eq_some_iff.mp h
    subst q3
    cases j with
    | zero =>
      simp at h1 h2
      subst h1 h2
      exact q1
    | succ j => exact keysL_get q2 j (by simpa using h1) (by simpa using h2)
def sortBy (ds kz : List D) : List D := ((ds.zip kz).mergeSort (PySem.W.dataLe false fun b => b.2)).map (·.1)
def dSortKey (i : Nat) (fa fb : Den) : Den := fun ρ => (fa ρ).bind fun d => match d with
  | .list ds => (keysL fb ρ i ds).bind fun kz => if sortOk kz = true then some (.list (sortBy ds kz)) else none
  | _ => none
theorem sortOk_eq {kz : List D} (h : sortOk kz = true) : PySem.W.AllAlike kz ∧ PySem.W.Sortable kz ∧ PyData.canLayAll0 kz = true ∧ (∀ d ∈ kz, d.depth ≤ 64) ∧ kz.length ≤ sizeLine := by
  unfold sortOk at h
  simp only [Bool.and_eq_true, Bool.or_eq_true, decide_eq_true_eq] at h
  obtain ⟨⟨⟨h2, h3⟩, h4⟩, h5⟩ := h
  obtain ⟨k1, k2⟩ := depthAll_of h2
  refine ⟨fun d hd d' hd' => alikeB_eq h3 d hd d' hd', ?_, k2, fun d hd => Nat.le_trans (depth_mem hd) k1, h5⟩
  rcases h4 with h4 | h4
  · refine .inl fun d hd => ?_
    have := List.all_eq_true.mp h4 d hd
    unfold firstT at this
    split at this
    · exact ⟨_, _, rfl⟩
    · cases this
  · refine .inr fun d hd => ?_
    have := List.all_eq_true.mp h4 d hd
    exact ⟨fun z => (by rw [z] at this; cases this), fun ys z => (by rw [z] at this; cases this)⟩
theorem zip3 {K : PySem.W.Frag} {G : Hp} {us : List V} {ds kz : List D} (r : RpAll K G us ds) (h : ds.length = kz.length) : RpAll K G (((us.zip kz).mergeSort (PySem.W.dataLe false fun b => b.2)).map (·.1)) (sortBy ds kz) := by
  have hl := r.length
  have e1 : us.zip kz = ((us.zip ds).zip kz).map fun b => (b.1.1, b.2) := by
    apply List.ext_getElem
    · simp only [List.length_map, List.length_zip]; omega
    · intro j h1 h2
      simp
  have e2 : ds.zip kz = ((us.zip ds).zip kz).map fun b => (b.1.2, b.2) := by
    apply List.ext_getElem
    · simp only [List.length_map, List.length_zip]; omega
    · intro j h1 h2
      simp
  have m1 := List.map_mergeSort (l := (us.zip ds).zip kz) (r := PySem.W.dataLe false fun b : (V × D) × D => b.2) (s := PySem.W.dataLe false fun b : V × D => b.2) (f := fun b => (b.1.1, b.2)) fun a _ b _ => rfl
  have m2 := List.map_mergeSort (l := (us.zip ds).zip kz) (r := PySem.W.dataLe false fun b : (V × D) × D => b.2) (s := PySem.W.dataLe false fun b : D × D => b.2) (f := fun b => (b.1.2, b.2)) fun a _ b _ => rfl
  unfold sortBy
  rw [e1, e2, ← m1, ← m2, List.map_map, List.map_map]
  have key : ∀ b ∈ ((us.zip ds).zip kz).mergeSort (PySem.W.dataLe false fun b : (V × D) × D => b.2), Rp K G b.1.1 b.1.2 := fun b hb => by
    have h1 := (List.mergeSort_perm _ _).subset hb
    exact rp_zip r b.1 (List.of_mem_zip h1).1
  revert key
  generalize ((us.zip ds).zip kz).mergeSort (PySem.W.dataLe false fun b : (V × D) × D => b.2) = l
  intro key
  induction l with
  | nil => exact .nil
  | cons b l ih => exact .cons (key b (List.mem_cons_self ..)) (ih fun c hc => key c (List.mem_cons_of_mem _ hc))
section
variable {X : Cx} {a body : Expr} {fa fb : Den} {i k : Nat} {pm : Str} {scope : Scope} {params : Arguments} {p pos lpos kp : Pos}
def onePar : Arguments → Option Str
  | ⟨[], [⟨x, _, _⟩], none, [], [], none, []⟩ => some x
  | _ => none
theorem onePar_bind (h : onePar params = some pm) (q : Str) (cl : List (Str × Addr)) (pv cv ctv u : Value) : bindArgs (PySem.W.kla_fn "<lambda>" q params body scope cl pv cv ctv) ⟨[u], []⟩ = pure [(pm, u)] := by
  unfold onePar at h
  split at h
  · cases h
    unfold bindArgs
    simp [PySem.W.kla_fn, seqItems?, notAStandIn]
    done
  · cases h
theorem onePar_def {env : PySem.Env} (h : onePar params = some pm) : defaultsOf params env = ([], []) := by
  unfold onePar at h
  split at h
  · rfl
  · cases h
abbrev LBody (X : Cx) (k : Nat) (scope : Scope) (body : Expr) (fb : Den) : Prop := ∀ (A : Around) (s : Shared) (H : Hp) (f c' : Addr), Room k (A.deeper (lamEnv X scope s.heap.objs.size f c')) → PE (lamCx X A X.stack s H C8.E0 scope f c').nox body (tE X.K .fz fb)
theorem lam_turn {pins : List (Addr × Obj)} {σ : L2.St} {ρ : Env} {H0 G0 H G : Hp} {f c' : Addr} {pv ctv : Value} {A : Around} (hop : onePar params = some pm) (L : LamP X.env.scope scope pm) (hN : X.N.Nodup) (hi : X.N[i]? = some pm) (hb : LBody X k scope body fb) (hr : Room (k + 1) A)
    (ok : EnvOk X.K H0 G0 H G σ ρ) (hc : H c' = some (CodeO c' (X.env.qual ++ "<lambda>"))) {x : V} {u : Value} {d key : D} {H' G' : Hp} {s' : Shared} (rv : RelV x u) (rp : Rp X.K G x d) (hk : fb (ρ.set i (some (.val d))) = some key)
    (I : Inv X pins σ H' s') (e0 : Env0 X.prog X.w X.K X.mg X.base A X.stack s' H') (st : Step X.K H G H' G') (hf : s'.heap.get? f = some (PySem.W.kla_obj "<lambda>" (X.env.qual ++ "<lambda>") params body scope (cloFrom X.env.cells scope.names []) pv c' ctv)) :
    KTurn X A H' s' f G' u key :=
  lam_call (p := pm) (i := i) I L hN hi rv e0 hr hf (st.same.at' _ _ hc fun qs => codeO_ne qs) (fun q cl pv cv ctv u => onePar_bind hop q cl pv cv ctv u) (hb A s' H' f c' (hr.deeper _))
    ⟨H0, G0, G', ρ.set i (some (.val d)), key, (ok.step st).set_val (rp.mono st.gg), hk, fun v H2 G2 s2 r2 => ⟨G2, s2, r2⟩⟩
theorem lam_step {H1 G1 H2 : Hp} {P : Addr} {ps : Array Value} (sm : SameT X.K H1 H2) (kp : ∀ b o, b ≠ P → H1 b = some o → H2 b = some o) (gh : Same G1 H1) (gP : G1 P = none) : Step X.K H1 G1 H2 G1 :=
  ⟨sm, Same.refl _, fun b o e => kp b o (fun z => by rw [z, gP] at e; cases e) (gh _ _ e), fun _ _ => rfl⟩
theorem e_sortLam (gl : Gl X "sorted") (hm : X.mg "sorted" = none) (na : isStar a = false) (hN : X.N.Nodup) (hi : X.N[i]? = some pm) (hop : onePar params = some pm) (L : LamP X.env.scope scope pm) (F : LamF X) (hr : Room (k + 3) X.A) (ha : PE X a (tE X.K .bw fa)) (hb : LBody X k scope body fb) :
    PE X (.Call (.Name "sorted" p) [a] [⟨some "key", .Lambda params body scope lpos, kp⟩] pos) (tE X.K .ow (dSortKey i fa fb)) := by
  obtain ⟨c, P, TB, hcode, hmem⟩ := F.ex
  refine ⟨fun pins s σ H Q I ⟨H0, G0, G, ρ, d, ok, hf, q⟩ => ?_⟩
  obtain ⟨da, e1, hf⟩ := Option.bind_eq_some_iff.mp hf
  have hA := pa_cons ha pa_nil (st1 na)
  refine wpAny_Call_Name_kw (ld_blt I gl hm (by decide +kernel : bootBuiltins "sorted" = some (.builtin "sorted")) ?_ (by decide) (by decide))
  refine PyProof.Rows.callWith_kw (thn (hA.run pos pins s σ H (fun vs H1 => ∃ x G1, vs = [x] ∧ Step X.K H G H1 G1 ∧ Rb X.K H1 G1 x da) I ⟨H0, G0, G, ρ, da, ok, e1, fun x H1 G1 s1 r1 => ⟨x, G1, rfl, s1, r1⟩⟩) fun us s1 ⟨vs, H1, I1, r1, x, G1, ev, st1', rx⟩ => ?_) (by rw [PF.st1 na]; rfl) (by rw [PF.st1 na]; rfl) rfl rfl
  subst ev
  show wpAny _ _ (evalAll ((do let v ← eval (.Lambda params body scope lpos) X.env; standAt pos; pure v) :: [])) _ _ s1
  have ok1 := ok.step st1'
  refine wpAny_evalAll_cons (wpAny_bind (lam_new I1 TB hcode hmem ok1.tb.1 (onePar_def hop) (L.bound I1.ok) fun f c' pv ctv H2 s2 I2 sm kp hfo hfn hfr hco => wpAny_bind (wpAny_standAt (wpAny_pure ?_))))
  refine wpAny_evalAll_nil ?_
  have st2 : Step X.K H1 G1 H2 G1 := lam_step (ps := #[]) sm kp ok1.gh (ok1.tb.2 _ hmem)
  have ok2 := ok1.step st2
  split at hf
  · rename_i ds
    obtain ⟨kz, e2, hf⟩ := Option.bind_eq_some_iff.mp hf
    obtain ⟨hs, hf⟩ := iteS hf
    cases hf
    obtain ⟨l, vs, rfl, hl, rr⟩ := Rb.lst ok1.gh rx
    rw [Vals.ref1 r1]
    have hl2 := rdT sm hl fun _ z => nomatch z
    obtain ⟨its, rv, pl, hz⟩ := I2.list (.inl hl2)
    obtain ⟨k1, k2, k3, k4, k5⟩ := sortOk_eq hs
    have kl := keysL_len e2
    have hun := hr.un
    refine sorted_by (Q := Q) I2 ok2.gh pl.isList rv (by rw [rr.length]; exact kl) k5 k1 k2 k3 (fun d hd => by have := k4 d hd; omega) hfo hfn hfr (fun j x u key H' G' s' h1 h2 h3 J st hfo' => ?_) fun D H' G' st hD gD => ?_
    · obtain ⟨dx, h4, h5⟩ := rr.getV j h1
      exact lam_turn hop L hN hi hb (hr.in1.in1) ok2 hco h2 h5 (keysL_get e2 j h4 h3) J (J.env0.in1.in1) st hfo'
    · have s3 := (st1'.trans st2).trans st
      refine q _ _ G' s3 ⟨D, _, rfl, ?_, upd_same, gD, RpAll.mono st.gg (zip3 rr kl)⟩
      exact (st1'.trans st2).same.free hD
  · cases hf
end
end PF
namespace PF
open PySem PySem.Spec PyProof.Rows L2 LK LamX
def isTp : D → Bool
  | .tuple _ => true
  | _ => false
def intL : List D → Option (List Int)
  | [] => some []
  | .int n :: r => (intL r).map fun l => n :: l
  | _ => none
theorem intL_eq : ∀ {ds : List D} {ns : List Int}, intL ds = some ns → ds = ns.map PyData.int
  | [], _, h => by cases h; rfl
  | d :: r, ns, h => by
    cases d with
    | int n =>
      unfold intL at h
      obtain ⟨l, h1, h2⟩ := Option.map_eq_some_iff.mp h
      subst h2
      rw [List.map_cons, ← intL_eq h1]
    | _ => cases h
def btG (ns : List Int) (i j : Nat) : Bool := decide (ns.getD i 0 > ns.getD j 0)
def dMaxKey (i : Nat) (fa fb : Den) : Den := fun ρ => (fa ρ).bind fun d => match d with
  | .list ds => (keysL fb ρ i ds).bind fun kz => (intL kz).bind fun ns => if ds.all isTp = true then ds[argBest (btG ns) (ds.length - 1)]? else none
  | _ => none
theorem vals_refs : ∀ {us : List V} {i1 i2 : List Value}, (∀ x ∈ us, ∃ a, x = V.ref a) → Vals us i1 → Vals us i2 → i1 = i2
  | [], _, _, _, .nil, .nil => rfl
  | x :: us, _, _, h, .cons r1 t1, .cons r2 t2 => by
    obtain ⟨a, rfl⟩ := h x (List.mem_cons_self ..)
    rw [show _ = Value.ref a from r1, show _ = Value.ref a from r2, vals_refs (fun y hy => h y (List.mem_cons_of_mem _ hy)) t1 t2]
section
variable {X : Cx} {pins : List (Addr × Obj)} {σ : L2.St} {H G : Hp} {s : Shared}
structure MLoop (X : Cx) (pins : List (Addr × Obj)) (σ : L2.St) (H G : Hp) (f : Addr) (fo : Obj) (own : List Addr) (s' : Shared) (H' G' : Hp) : Prop where
  I : Inv X pins σ H' s'
  st : Step X.K H G H' G'
  hf : s'.heap.get? f = some fo
  fn : H' f = none
  no : ∀ b ∈ own, H' b = none
theorem max_by {l f : Addr} {us : List V} {ns : List Int} {fo : Obj} {Q : VK} {E : Value → Shared → Prop} (hc : X.calm = true) (I : Inv X pins σ H s) (hl : Rd H l (.lst us)) (hlen : us.length = ns.length) (hne : 0 < us.length) (hrf : ∀ x ∈ us, ∃ a, x = V.ref a) (gh : Same G H)
    (hf : s.heap.get? f = some fo) (hfn : H f = none) (hfr : f ∉ frs X.stack)
    (turn : ∀ (j : Nat) (x : V) (u : Value) (n : Int) (H' G' : Hp) (s' : Shared), us[j]? = some x → RelV x u → ns[j]? = some n → Inv X pins σ H' s' → Step X.K H G H' G' → s'.heap.get? f = some fo → KTurn X X.A.in1 H' s' f G' u (.int n))
    (q : ∀ (x : V) (H' G' : Hp), us[argBest (btG ns) (us.length - 1)]? = some x → Step X.K H G H' G' → Q x H') :
    wpAny (model X.prog X.w) X.A (call (.builtin "max") [.ref l] [(Str.ofString "key", .ref f)]) (EP X pins σ Q) E s := by
  have flt : f < s.heap.objs.size := Heap.lt_size hf
  obtain ⟨its, rv, pl, hz⟩ := I.list (.inl hl)
  have hsz : its.toArray.size = us.length := by rw [List.size_toArray, rv.length]
  refine call_max_walkK (PySem.W.iter_listW (A := X.A.in1) (I.ok.hd hc) pl.isList fun s₂ e W st hfp hw hkp => ?_)
  have s2z : s₂.heap.objs.size = s.heap.objs.size + 1 := by rw [e]; exact Heap.size_push ..
  have own : ∀ b ∈ s₂.heap.objs.size :: [s.heap.objs.size], s.heap.objs.size ≤ b := fun b hb => by
    rcases List.mem_cons.mp hb with z | z
    · rw [z, s2z]; exact Nat.le_succ _
    · rw [List.mem_singleton.mp z]; exact Nat.le_refl _
  have fre : ∀ b ∈ s₂.heap.objs.size :: [s.heap.objs.size], Fre X pins b := fun b hb => Fre.of I (own b hb)
  refine ⟨_, _, _, _, _, _, _, (fun s' => ∃ H' G', MLoop X pins σ H G f fo (s₂.heap.objs.size :: [s.heap.objs.size]) s' H' G'), (fun i k _ => ∃ t, k = .int (ns.getD i 0) t), btG ns, rfl, W, st, hfp, by rw [hsz]; exact hne, ?_, ?_, fun v s' hP hJ => ?_⟩
  · refine ⟨fun s1 s' hJ m => ?_, fun i k s1 s' hV m => hV, fun i v s1 o Q' E' hi hP hJ hSt hS hQ => ?_, fun i j ki kj s1 Q' E' hJ hVi hVj hQ => ?_⟩
    · obtain ⟨H', G', L⟩ := hJ
      obtain ⟨hp, g, d, tk, os⟩ := s'
      have e1 : g = s1.gens := m.gens
      have e2 : d = s1.drawn := m.drawn
      have e3 : os = s1.os := m.os
      subst e1 e2 e3
      have hfm : f ∉ s₂.heap.objs.size :: [s.heap.objs.size] := fun z => absurd (Nat.lt_of_lt_of_le flt (own f z)) (Nat.lt_irrefl _)
      exact ⟨H', G', turnedL L.I fre L.no fun b o hb z => m.heap b o hb z, L.st, m.heap f fo hfm L.hf, L.fn, L.no⟩
    · obtain ⟨H', G', L⟩ := hJ
      have hv : its[i]? = some v := by simpa using hP
      obtain ⟨x, x1, x2⟩ := vals_back rv i v hv
      have hil : i < ns.length := by rw [← hlen]; exact (List.getElem?_eq_some_iff.mp x1).1
      have hn : ns[i]? = some ns[i] := List.getElem?_eq_getElem hil
      have hgd : ns.getD i 0 = ns[i] := by rw [List.getD_eq_getElem?_getD, hn]; rfl
      refine wpAny_mono (kturn_wp (turn i x v _ H' G' s1 x1 x2 hn L.I L.st L.hf)) (fun u2 s2 he => ?_) fun _ _ z => z.elim
      obtain ⟨v2, H2, os, bare, un, hok, r2, G2, st2, rp2⟩ := he
      have J := inv_of L.I os bare un hok r2
      obtain ⟨⟨oi, ho, hcl, hdt⟩, _⟩ := hSt
      have hit := L.no s.heap.objs.size (List.mem_cons_of_mem _ (List.mem_singleton.mpr rfl))
      have hSn := L.no s₂.heap.objs.size (List.mem_cons_self ..)
      obtain ⟨its2, rv2, pl2, _⟩ := J.list (.inl (rdT (L.st.trans st2).same hl fun _ z => nomatch z))
      have ei : its2 = its := vals_refs hrf rv2 rv
      subst ei
      cases rp2
      refine hQ _ _ ⟨H2, G2, J, L.st.trans st2, un.keep f fo L.hf L.fn hfr (by simp), un.free f fo L.hf L.fn (by simp), fun b hb => ?_⟩ ⟨⟨oi, un.keep _ oi ho hit (fre _ (List.mem_cons_of_mem _ (List.mem_singleton.mpr rfl))).fr (by simp), hcl, hdt⟩, pl2.isList⟩ (un.keep _ o hS hSn (fre _ (List.mem_cons_self ..)).fr (by simp)) ?_ fun j k' z => z
      · rcases List.mem_cons.mp hb with z | z
        · rw [z]
          exact un.free _ o hS hSn (by simp)
        · rw [List.mem_singleton.mp z]
          exact un.free _ oi ho hit (by simp)
      · rw [hgd]
        exact r2
    · exact CmpOf.ints_gt (prog := X.prog) (w := X.w) (A := X.A.in1) (P := fun i v => ∃ t, v = .int (ns.getD i 0) t) (fun i => ns.getD i 0) (fun i v h => h) i j _ _ _ _ _ hVi hVj hQ
  · have I2 : Inv X pins σ H s₂ := by
      rw [e]
      exact I.kept fun b o z => Heap.get?_push_of_some _ z
    exact ⟨H, G, I2, Step.refl gh, hkp _ _ hf, hfn, fun b hb => I.hok.fresh (own b hb)⟩
  · obtain ⟨H', G', L⟩ := hJ
    have hv : its[argBest (btG ns) (us.length - 1)]? = some v := by rw [← hsz]; simpa using hP
    obtain ⟨x, x1, x2⟩ := vals_back rv _ v hv
    exact ⟨x, H', L.I, x2, q x H' G' x1 L.st⟩
theorem tup_refs {K : PySem.W.Frag} {G : Hp} : ∀ {us : List V} {ds : List D}, RpAll K G us ds → ds.all isTp = true → ∀ x ∈ us, ∃ a, x = V.ref a
  | _, _, .nil, _, x, hx => nomatch hx
  | _, _, @RpAll.cons _ _ v vs d ds r t, h, x, hx => by
    rw [List.all_cons, Bool.and_eq_true] at h
    rcases List.mem_cons.mp hx with z | z
    · subst z
      cases d with
      | tuple ys => cases r with | tup e r => exact ⟨_, rfl⟩
      | _ => exact absurd h.1 (by simp [isTp])
    · exact tup_refs t h.2 x z
end
section
variable {X : Cx} {a body : Expr} {fa fb : Den} {i k : Nat} {pm : Str} {scope : Scope} {params : Arguments} {p pos lpos kp : Pos}
theorem e_maxLam (hc : X.calm = true) (gl : Gl X "max") (hm : X.mg "max" = none) (na : isStar a = false) (hN : X.N.Nodup) (hi : X.N[i]? = some pm) (hop : onePar params = some pm) (L : LamP X.env.scope scope pm) (F : LamF X) (hr : Room (k + 3) X.A) (ha : PE X a (tE X.K .bw fa)) (hb : LBody X k scope body fb) :
    PE X (.Call (.Name "max" p) [a] [⟨some "key", .Lambda params body scope lpos, kp⟩] pos) (tE X.K .fz (dMaxKey i fa fb)) := by
  obtain ⟨c, P, TB, hcode, hmem⟩ := F.ex
  refine ⟨fun pins s σ H Q I ⟨H0, G0, G, ρ, d, ok, hf, q⟩ => ?_⟩
  obtain ⟨da, e1, hf⟩ := Option.bind_eq_some_iff.mp hf
  have hA := pa_cons ha pa_nil (st1 na)
  refine wpAny_Call_Name_kw (ld_blt I gl hm (by decide +kernel : bootBuiltins "max" = some (.builtin "max")) ?_ (by decide) (by decide))
  refine PyProof.Rows.callWith_kw (thn (hA.run pos pins s σ H (fun vs H1 => ∃ x G1, vs = [x] ∧ Step X.K H G H1 G1 ∧ Rb X.K H1 G1 x da) I ⟨H0, G0, G, ρ, da, ok, e1, fun x H1 G1 s1 r1 => ⟨x, G1, rfl, s1, r1⟩⟩) fun us s1 ⟨vs, H1, I1, r1, x, G1, ev, st1', rx⟩ => ?_) (by rw [PF.st1 na]; rfl) (by rw [PF.st1 na]; rfl) rfl rfl
  subst ev
  show wpAny _ _ (evalAll ((do let v ← eval (.Lambda params body scope lpos) X.env; standAt pos; pure v) :: [])) _ _ s1
  have ok1 := ok.step st1'
  refine wpAny_evalAll_cons (wpAny_bind (lam_new I1 TB hcode hmem ok1.tb.1 (onePar_def hop) (L.bound I1.ok) fun f c' pv ctv H2 s2 I2 sm kp hfo hfn hfr hco => wpAny_bind (wpAny_standAt (wpAny_pure ?_))))
  refine wpAny_evalAll_nil ?_
  have st2 : Step X.K H1 G1 H2 G1 := lam_step (ps := #[]) sm kp ok1.gh (ok1.tb.2 _ hmem)
  have ok2 := ok1.step st2
  split at hf
  · rename_i ds
    obtain ⟨kz, e2, hf⟩ := Option.bind_eq_some_iff.mp hf
    obtain ⟨ns, e3, hf⟩ := Option.bind_eq_some_iff.mp hf
    obtain ⟨ht, hf⟩ := iteS hf
    obtain ⟨l, vs, rfl, hl, rr⟩ := Rb.lst ok1.gh rx
    rw [Vals.ref1 r1]
    have hl2 := rdT sm hl fun _ z => nomatch z
    have kl := keysL_len e2
    have en := intL_eq e3
    have hnl : ns.length = kz.length := by rw [en, List.length_map]
    have hne : 0 < vs.length := by
      rw [rr.length]
      have := (List.getElem?_eq_some_iff.mp hf).1
      omega
    refine max_by (Q := Q) (ns := ns) hc I2 hl2 (by rw [rr.length, kl, hnl]) hne (tup_refs rr ht) ok2.gh hfo hfn hfr (fun j x u n H' G' s' h1 h2 h3 J st hfo' => ?_) fun x H' G' hx st => ?_
    · obtain ⟨dx, h4, h5⟩ := rr.getV j h1
      have h6 : kz[j]? = some (.int n) := by rw [en, List.getElem?_map, h3]; rfl
      exact lam_turn hop L hN hi hb ((hr.mono (by omega : k + 2 ≤ k + 3)).in1) ok2 hco h2 h5 (keysL_get e2 j h4 h6) J (J.env0.in1) st hfo'
    · rw [rr.length] at hx
      obtain ⟨dx, h4, h5⟩ := rr.getV _ hx
      rw [hf] at h4
      cases h4
      exact q _ _ G' ((st1'.trans st2).trans st) (h5.mono st.gg)
  · cases hf
end
end PF
namespace PF
open PySem PySem.Spec PyProof.Rows L2 RZ
structure Ctx where
  N : List Str
  sc : Scope
  blk : Option Scope
  fns : List (Str × Nat × (List D → Option D))
  gls : List (Str × D)
  own : List Nat
  wf : Nat
  fks : List (Str × List Str × Nat × Bool × (List D → List D → Option D)) := []
  ro : Bool := false
  dic : List Nat := []
  lks : List (Str × List Bool × Nat × (List D → Option D)) := []
  lam : Bool := false
def bltNames : List Str := ["len", "sum", "all", "any", "min", "max", "tuple", "list", "range", "enumerate", "zip", "isinstance", "int", "bool", "str", "sorted", "set", "abs"]
def fnB (Γ : Ctx) (x : Str) : Bool := match Γ.blk with
  | none => true
  | some s => s.names.lookup x == some .cell || Γ.sc.names.lookup x == some .local
structure XOk (k : Nat) (Γ : Ctx) (X : Cx) : Prop where
  N : X.N = Γ.N
  nd : X.N.Nodup
  sc : X.env.scope = Γ.sc
  calm : X.calm = true
  room : Room k X.A
  xe : X.xe = fun _ _ => False
  fn : ∀ x, fnB Γ x = true → X.fn x = true ∨ X.env.scope.names.lookup x = some .local
  fns : ∀ x n g, Γ.fns.lookup x = some (n, g) → ∃ fa fd ps, X.mg x = some (.ref fa) ∧ PySem.W.keepIn X.K (.ref fa) = true ∧ Binds X.K fd ps [] ∧ FnOk X.prog X.w X.K X.mg X.base CX0 k fa fd ps (spF X.K n g)
  fks : ∀ x ks n o F, (x, ks, n, o, F) ∈ Γ.fks → AvK X.prog X.w X.K X.mg X.base k x ks n o F
  lks : ∀ x m n g, Γ.lks.lookup x = some (m, n, g) → AvL X.prog X.w X.K X.mg X.base k x m n g
  blt : ∀ x ∈ bltNames, X.mg x = none
  gls : ∀ x d, Γ.gls.lookup x = some d → ∃ v u, X.mg x = some u ∧ RelV v u ∧ (∀ G, Rp X.K G v d) ∧ ∀ xs, d ≠ .list xs
  lamF : Γ.lam = true → Γ.blk = none → LamF X ∧ Room (k + 3) X.A
theorem ite_some {α : Type} {c : Prop} [Decidable c] {a : Option α} {b : α} (h : (if c then a else none) = some b) : c ∧ a = some b := by
  split at h
  · exact ⟨by assumption, h⟩
  · cases h
theorem bind_some {α β : Type} {a : Option α} {f : α → Option β} {b : β} (h : a.bind f = some b) : ∃ x, a = some x ∧ f x = some b := by
  cases a with
  | none => cases h
  | some x => exact ⟨x, rfl, h⟩
theorem map_some {α β : Type} {a : Option α} {f : α → β} {b : β} (h : a.map f = some b) : ∃ x, a = some x ∧ f x = b := by
  cases a with
  | none => cases h
  | some x => exact ⟨x, rfl, Option.some.inj h⟩
def slotOf : List Str → Str → Option Nat
  | [], _ => none
  | y :: r, x => if y = x then some 0 else (slotOf r x).map (· + 1)
theorem slotOf_get : ∀ {N : List Str} {x : Str} {i : Nat}, slotOf N x = some i → N[i]? = some x
  | [], _, _, h => by cases h
  | y :: r, x, i, h => by
    unfold slotOf at h
    split at h
    · rename_i e
      cases h
      rw [e]
      rfl
    · obtain ⟨j, h1, h2⟩ := map_some h
      subst h2
      simpa using slotOf_get h1
def okNm (x : Str) : Bool := (x == ("__debug__" : Str)) == false && (x == ("__classdict__" : Str)) == false && decide (x ≠ "__name__")
theorem okNm_eq {x : Str} (h : okNm x = true) : (x == ("__debug__" : Str)) = false ∧ (x == ("__classdict__" : Str)) = false ∧ x ≠ "__name__" := by
  unfold okNm at h
  simp only [Bool.and_eq_true, beq_iff_eq, decide_eq_true_eq] at h
  exact ⟨h.1.1, h.1.2, h.2⟩
def visB (sc : Scope) (x : Str) : Bool := match sc.names.lookup x with
  | some .local => true
  | some .cell => true
  | some .free => true
  | _ => false
theorem visB_eq {sc : Scope} {x : Str} (h : visB sc x = true) : Vis sc x := by
  unfold visB at h
  split at h <;> first | exact .inl (by assumption) | exact .inr (.inl (by assumption)) | exact .inr (.inr (by assumption)) | cases h
def locB (sc : Scope) (x : Str) : Bool := match sc.names.lookup x with
  | some .local => true
  | some .cell => true
  | _ => false
theorem locB_eq {sc : Scope} {x : Str} (h : locB sc x = true) : Loc sc x := by
  unfold locB at h
  split at h <;> first | exact .inl (by assumption) | exact .inr (by assumption) | cases h
def glB (sc : Scope) (x : Str) : Bool := sc.names.lookup x == some .globalImplicit && okNm x
def cVar (Γ : Ctx) (x : Str) : Option Nat := if visB Γ.sc x = true ∧ okNm x = true then slotOf Γ.N x else none
section
variable {k : Nat} {Γ : Ctx} {X : Cx}
theorem XOk.gl (ok : XOk k Γ X) {x : Str} (h : glB Γ.sc x = true) : Gl X x ∧ x ≠ "__name__" ∧ (x == ("__debug__" : Str)) = false := by
  unfold glB at h
  simp only [Bool.and_eq_true, beq_iff_eq] at h
  refine ⟨?_, (okNm_eq h.2).2.2, (okNm_eq h.2).1⟩
  show X.env.scope.names.lookup x = some .globalImplicit
  rw [ok.sc]
  exact h.1
theorem XOk.var (ok : XOk k Γ X) {x : Str} {i : Nat} (h : cVar Γ x = some i) : X.N[i]? = some x ∧ Vis X.env.scope x ∧ (x == ("__debug__" : Str)) = false ∧ (x == ("__classdict__" : Str)) = false := by
  obtain ⟨⟨h1, h2⟩, h3⟩ := ite_some h
  exact ⟨by rw [ok.N]; exact slotOf_get h3, by rw [ok.sc]; exact visB_eq h1, (okNm_eq h2).1, (okNm_eq h2).2.1⟩
theorem XOk.bl (ok : XOk k Γ X) {x : Str} (h : decide (x ∈ bltNames) = true) : X.mg x = none := ok.blt x (of_decide_eq_true h)
theorem XOk.u65 (ok : XOk k Γ X) : X.A.units + 65 < cLine := by have := ok.room.un; omega
end
abbrev Rec := Ctx → Expr → Option (Den × Bool)
def isIf : Expr → Bool
  | .IfExp .. => true
  | _ => false
def Snd (k : Nat) (r : Rec) : Prop := ∀ Γ e f b, r Γ e = some (f, b) → ∀ X, XOk k Γ X → PE X e (tE X.K .fz f) ∧ (b = true → PE X e (tE X.K .ow f)) ∧ (isIf e = false → PT X e (tT X.K (dT f)))
section
variable {k : Nat} {r : Rec} {Γ : Ctx} {X : Cx} {e : Expr} {f : Den} {b : Bool} {pos p : Pos}
theorem snd_ow (h : PE X e (tE X.K .ow f)) (ht : isIf e = false → PT X e (tT X.K (dT f))) : PE X e (tE X.K .fz f) ∧ (b = true → PE X e (tE X.K .ow f)) ∧ (isIf e = false → PT X e (tT X.K (dT f))) := ⟨fz_ow h, fun _ => h, ht⟩
theorem snd_owV (h : PE X e (tE X.K .ow f)) (he : ∀ whole, isTrue e X.env whole = (do let v ← whole; standAt e.pos; holding [v] (truthy v))) : PE X e (tE X.K .fz f) ∧ (b = true → PE X e (tE X.K .ow f)) ∧ (isIf e = false → PT X e (tT X.K (dT f))) := snd_ow h fun _ => t_val (fz_ow h) he
theorem snd_fzV (h : PE X e (tE X.K .fz f)) (he : ∀ whole, isTrue e X.env whole = (do let v ← whole; standAt e.pos; holding [v] (truthy v))) : PE X e (tE X.K .fz f) ∧ (false = true → PE X e (tE X.K .ow f)) ∧ (isIf e = false → PT X e (tT X.K (dT f))) := ⟨h, fun z => absurd z Bool.false_ne_true, fun _ => t_val h he⟩
def dicOf (Γ : Ctx) : Expr → Option Nat
  | .Name x _ => (cVar Γ x).bind fun i => if i ∈ Γ.dic then some i else none
  | _ => none
theorem dicOf_ok {i : Nat} (h : dicOf Γ e = some i) (ok : XOk k Γ X) : ∃ x p, e = .Name x p ∧ NmOk X i x := by
  unfold dicOf at h
  split at h
  · obtain ⟨j, h1, h⟩ := bind_some h
    obtain ⟨_, h⟩ := ite_some h
    cases h
    obtain ⟨v1, v2, v3, v4⟩ := ok.var h1
    exact ⟨_, _, rfl, ⟨v1, v2, v3, v4⟩⟩
  · cases h
def cName (Γ : Ctx) (x : Str) : Option (Den × Bool) := match cVar Γ x with
  | some i => some (dVar i, false)
  | none => if glB Γ.sc x = true then (Γ.gls.lookup x).map fun d => (dC d, true) else none
theorem name_snd (h : cName Γ x = some (f, b)) (ok : XOk k Γ X) : PE X (.Name x pos) (tE X.K .fz f) ∧ (b = true → PE X (.Name x pos) (tE X.K .ow f)) ∧ (isIf (.Name x pos) = false → PT X (.Name x pos) (tT X.K (dT f))) := by
  unfold cName at h
  split at h
  · rename_i i e1
    cases h
    obtain ⟨h1, h2, h3, h4⟩ := ok.var e1
    exact snd_fzV (e_var h1 h2 h3 h4) (fun _ => rfl)
  · obtain ⟨h1, h2⟩ := ite_some h
    obtain ⟨d, h3, h4⟩ := map_some h2
    cases h4
    obtain ⟨g1, g2, g3⟩ := ok.gl h1
    obtain ⟨v, u, m1, m2, m3, m4⟩ := ok.gls x d h3
    exact snd_owV (e_const (pe_glob g1 m1 m2 g3) m3 m4) (fun _ => rfl)
def cB (r : Rec) (Γ : Ctx) (e : Expr) : Option Den := match e with
  | .Name x p => match cVar Γ x with
    | some i => some (dVarB i)
    | none => (r Γ (.Name x p)).map (·.1)
  | e => (r Γ e).map (·.1)
theorem cB_snd (hr : Snd k r) (h : cB r Γ e = some f) (ok : XOk k Γ X) : PE X e (tE X.K .bw f) := by
  unfold cB at h
  split at h
  · rename_i x p
    split at h
    · rename_i i e1
      cases h
      obtain ⟨h1, h2, h3, h4⟩ := ok.var e1
      exact e_varB h1 h2 h3 h4
    · obtain ⟨⟨g, b⟩, h1, h2⟩ := map_some h
      cases h2
      exact bw_fz (hr _ _ _ _ h1 X ok).1
  · obtain ⟨⟨g, b⟩, h1, h2⟩ := map_some h
    cases h2
    exact bw_fz (hr _ _ _ _ h1 X ok).1
def cF (r : Rec) (Γ : Ctx) (e : Expr) : Option Den := (r Γ e).map (·.1)
theorem cF_snd (hr : Snd k r) (h : cF r Γ e = some f) (ok : XOk k Γ X) : PE X e (tE X.K .fz f) ∧ (isIf e = false → PT X e (tT X.K (dT f))) := by
  obtain ⟨⟨g, b⟩, h1, h2⟩ := map_some h
  cases h2
  exact ⟨(hr _ _ _ _ h1 X ok).1, (hr _ _ _ _ h1 X ok).2.2⟩
def cConst : Const → Option (Den × Bool)
  | .int i => some (dC (.int i), true)
  | .bool i => some (dC (.bool i), true)
  | .str i => some (dC (.str i), true)
  | .none => some (dC .none, true)
  | _ => none
def cBin (r : Rec) (Γ : Ctx) (a : Expr) (op : Operator) (b : Expr) : Option (Den × Bool) := (cB r Γ a).bind fun fa => (cB r Γ b).bind fun fb => match op with
  | .Add => some (d2 aAdd fa fb, true)
  | .Sub => some (d2 aSub fa fb, true)
  | .Mult => some (d2 aMul fa fb, true)
  | .Mod => some (d2 aMod fa fb, true)
  | .FloorDiv => some (d2 aDiv fa fb, true)
  | .Pow => some (d2 aPow fa fb, true)
  | _ => none
theorem bin_snd {a c : Expr} {op : Operator} (hr : Snd k r) (h : cBin r Γ a op c = some (f, b)) (ok : XOk k Γ X) : PE X (.BinOp a op c pos) (tE X.K .fz f) ∧ (b = true → PE X (.BinOp a op c pos) (tE X.K .ow f)) ∧ (isIf (.BinOp a op c pos) = false → PT X (.BinOp a op c pos) (tT X.K (dT f))) := by
  obtain ⟨fa, h1, h⟩ := bind_some h
  obtain ⟨fb, h2, h⟩ := bind_some h
  have ha := cB_snd hr h1 ok
  have hb := cB_snd hr h2 ok
  cases op <;> first | (cases h; done) | skip
  · cases h; exact snd_owV (e_add ha hb) (fun _ => rfl)
  · cases h; exact snd_owV (e_sub ha hb) (fun _ => rfl)
  · cases h; exact snd_owV (e_mul ha hb) (fun _ => rfl)
  · cases h; exact snd_owV (e_mod ha hb) (fun _ => rfl)
  · cases h; exact snd_owV (e_pow ha hb) (fun _ => rfl)
  · cases h; exact snd_owV (e_div ha hb) (fun _ => rfl)
def cUn (r : Rec) (Γ : Ctx) (op : UnaryOp) (a : Expr) : Option (Den × Bool) := match op with
  | .USub => (cB r Γ a).map fun f => (d1 aNeg f, true)
  | .Not => if isIf a = false then (cF r Γ a).map fun f => (dNot f, true) else none
  | _ => none
theorem un_snd {a : Expr} {op : UnaryOp} (hr : Snd k r) (h : cUn r Γ op a = some (f, b)) (ok : XOk k Γ X) : PE X (.UnaryOp op a pos) (tE X.K .fz f) ∧ (b = true → PE X (.UnaryOp op a pos) (tE X.K .ow f)) ∧ (isIf (.UnaryOp op a pos) = false → PT X (.UnaryOp op a pos) (tT X.K (dT f))) := by
  cases op with
  | USub =>
    obtain ⟨g, h1, h2⟩ := map_some h
    cases h2
    exact snd_owV (e_neg (cB_snd hr h1 ok)) (fun _ => rfl)
  | Not =>
    obtain ⟨hi, h⟩ := ite_some h
    obtain ⟨g, h1, h2⟩ := map_some h
    cases h2
    obtain ⟨q1, q2⟩ := cF_snd hr h1 ok
    exact snd_ow (e_not q1) fun _ => t_not (q2 hi)
  | _ => cases h
def cBools (r : Rec) (Γ : Ctx) (op : BoolOp) : List Expr → Option Den
  | [] => none
  | [a] => if isIf a = false then cF r Γ a else none
  | a :: c :: rest => if isIf a = false then (cF r Γ a).bind fun fa => (cBools r Γ op (c :: rest)).map fun fr => (match op with | .And => dAnd fa fr | .Or => dOr fa fr) else none
theorem bools_snd {op : BoolOp} (hr : Snd k r) (ok : XOk k Γ X) : ∀ {vs : List Expr} {f : Den}, cBools r Γ op vs = some f → PE X (.BoolOp op vs pos) (tE X.K .fz f) ∧ PW X (.BoolOp op vs pos) (tT X.K (dT f))
  | [], _, h => by cases h
  | [a], f, h => by
    obtain ⟨hi, h⟩ := ite_some h
    obtain ⟨q1, q2⟩ := cF_snd hr h ok
    refine ⟨pe_one q1, ?_⟩
    cases op with
    | And => exact pw_and1 (q2 hi)
    | Or => exact pw_or1 (q2 hi)
  | a :: c :: rest, f, h => by
    obtain ⟨hi, h⟩ := ite_some h
    obtain ⟨fa, h1, h⟩ := bind_some h
    obtain ⟨fr, h2, h3⟩ := map_some h
    obtain ⟨q1, q2⟩ := cF_snd hr h1 ok
    obtain ⟨r1, r2⟩ := bools_snd hr ok h2
    cases op with
    | And =>
      cases h3
      exact ⟨e_and q1 r1, w_and (q2 hi) r2⟩
    | Or =>
      cases h3
      exact ⟨e_or q1 r1, w_or (q2 hi) r2⟩
def isSet : Expr → Bool
  | .Set .. => true
  | _ => false
theorem mark_ok {op : CmpOp} {c : Expr} (h : isSet c = false) : behindInMarks op c = false := by
  cases c <;> first | rfl | (exact absurd h (by simp [isSet]))
def cCmp (r : Rec) (Γ : Ctx) (a : Expr) : List CmpOp → List Expr → Option (Den × Bool)
  | [op], [c] => match (match op with | .In => some false | .NotIn => some true | _ => none), dicOf Γ c with
    | some n, some i => (cB r Γ a).map fun fa => (dInN n fa i, true)
    | _, _ => if isSet c = false then (cB r Γ a).bind fun fa => (cB r Γ c).map fun fc => (d2 (aCmp op) fa fc, true) else none
  | [op, op'], [c, d] => if isSet d = false then (cB r Γ a).bind fun fa => (cB r Γ c).bind fun fc => (cB r Γ d).map fun fd => (dChain (aCmp op) (aCmp op') fa fc fd, true) else none
  | _, _ => none
theorem cmp_snd {a : Expr} {ops : List CmpOp} {cs : List Expr} (hr : Snd k r) (h : cCmp r Γ a ops cs = some (f, b)) (ok : XOk k Γ X) : PE X (.Compare a ops cs pos) (tE X.K .fz f) ∧ (b = true → PE X (.Compare a ops cs pos) (tE X.K .ow f)) ∧ (isIf (.Compare a ops cs pos) = false → PT X (.Compare a ops cs pos) (tT X.K (dT f))) := by
  unfold cCmp at h
  split at h
  · rename_i op c
    split at h
    · rename_i n i eo ed
      obtain ⟨fa, h1, h⟩ := map_some h
      cases h
      have ha := cB_snd hr h1 ok
      obtain ⟨x, px, rfl, hn⟩ := dicOf_ok ed ok
      have eop : op = inOp n := by cases op <;> first | (cases eo; rfl) | (cases eo)
      subst eop
      exact snd_ow (e_inN ok.u65 hn (mark_ok rfl) ha) fun _ => t_inN ok.u65 hn (mark_ok rfl) ha
    · obtain ⟨hs, h⟩ := ite_some h
      obtain ⟨fa, h1, h⟩ := bind_some h
      obtain ⟨fc, h2, h⟩ := map_some h
      cases h
      have ha := cB_snd hr h1 ok
      have hc := cB_snd hr h2 ok
      exact snd_ow (e_cmp1 ok.u65 (mark_ok hs) ha hc) fun _ => t_cmp1 ok.u65 (mark_ok hs) ha hc
  · obtain ⟨hs, h⟩ := ite_some h
    obtain ⟨fa, h1, h⟩ := bind_some h
    obtain ⟨fc, h2, h⟩ := bind_some h
    obtain ⟨fd, h3, h⟩ := map_some h
    cases h
    have ha := cB_snd hr h1 ok
    have hc := cB_snd hr h2 ok
    have hd := cB_snd hr h3 ok
    exact snd_ow (e_chain ok.u65 (mark_ok hs) ha hc hd) fun _ => t_chain ok.u65 (mark_ok hs) ha hc hd
  · cases h
def cArgs (r : Rec) (Γ : Ctx) : List Expr → Option (List Den)
  | [] => some []
  | e :: es => if isStar e = false then (cF r Γ e).bind fun f => (cArgs r Γ es).map fun fs => f :: fs else none
theorem args_snd (hr : Snd k r) (ok : XOk k Γ X) : ∀ {es : List Expr} {fs : List Den}, cArgs r Γ es = some fs → PA X es (tA X.K (dArgs fs)) ∧ es.all (fun e => !isStar e) = true
  | [], _, h => by cases h; exact ⟨a_nil, rfl⟩
  | e :: es, _, h => by
    obtain ⟨hs, h⟩ := ite_some h
    obtain ⟨f, h1, h⟩ := bind_some h
    obtain ⟨fs, h2, h⟩ := map_some h
    cases h
    obtain ⟨q1, q2⟩ := args_snd hr ok h2
    exact ⟨a_cons hs (cF_snd hr h1 ok).1 q1, by simp only [List.all_cons, hs, q2]; rfl⟩
def cArgsB (r : Rec) (Γ : Ctx) : List Expr → Option (List Den)
  | [] => some []
  | e :: es => if isStar e = false then (cB r Γ e).bind fun f => (cArgsB r Γ es).map fun fs => f :: fs else none
theorem argsB_snd (hr : Snd k r) (ok : XOk k Γ X) : ∀ {es : List Expr} {fs : List Den}, cArgsB r Γ es = some fs → PA X es (tAb X.K (dArgs fs)) ∧ es.all (fun e => !isStar e) = true
  | [], _, h => by cases h; exact ⟨ab_nil, rfl⟩
  | e :: es, _, h => by
    obtain ⟨hs, h⟩ := ite_some h
    obtain ⟨f, h1, h⟩ := bind_some h
    obtain ⟨fs, h2, h⟩ := map_some h
    cases h
    obtain ⟨q1, q2⟩ := argsB_snd hr ok h2
    exact ⟨ab_cons hs (cB_snd hr h1 ok) q1, by simp only [List.all_cons, hs, q2]; rfl⟩
def cArgsM (r : Rec) (Γ : Ctx) : List Bool → List Expr → Option (List Den)
  | [], [] => some []
  | true :: m, e :: es => if isStar e = false then (cB r Γ e).bind fun f => (cArgsM r Γ m es).map fun fs => f :: fs else none
  | false :: m, e :: es => if isStar e = false then (cF r Γ e).bind fun f => (cArgsM r Γ m es).map fun fs => f :: fs else none
  | _, _ => none
theorem argsM_snd (hr : Snd k r) (ok : XOk k Γ X) : ∀ {m : List Bool} {es : List Expr} {fs : List Den}, cArgsM r Γ m es = some fs → PA X es (tAm X.K m (dArgs fs)) ∧ es.all (fun e => !isStar e) = true
  | [], [], _, h => by cases h; exact ⟨am_nil, rfl⟩
  | true :: m, e :: es, _, h => by
    obtain ⟨hs, h⟩ := ite_some h
    obtain ⟨f, h1, h⟩ := bind_some h
    obtain ⟨fs, h2, h⟩ := map_some h
    cases h
    obtain ⟨q1, q2⟩ := argsM_snd hr ok h2
    exact ⟨am_consT hs (cB_snd hr h1 ok) q1, by simp only [List.all_cons, hs, q2]; rfl⟩
  | false :: m, e :: es, _, h => by
    obtain ⟨hs, h⟩ := ite_some h
    obtain ⟨f, h1, h⟩ := bind_some h
    obtain ⟨fs, h2, h⟩ := map_some h
    cases h
    obtain ⟨q1, q2⟩ := argsM_snd hr ok h2
    exact ⟨am_consF hs (cF_snd hr h1 ok).1 q1, by simp only [List.all_cons, hs, q2]; rfl⟩
  | [], _ :: _, _, h => by cases h
  | true :: _, [], _, h => by cases h
  | false :: _, [], _, h => by cases h
def cOpt (r : Rec) (Γ : Ctx) : Option Expr → Option (Option Den)
  | none => some none
  | some e => (cB r Γ e).map some
theorem opt_snd (hr : Snd k r) (ok : XOk k Γ X) {o : Option Expr} {fo : Option Den} (h : cOpt r Γ o = some fo) : PO X o (tO X.K fo) := by
  cases o with
  | none => cases h; exact o_none
  | some e =>
    obtain ⟨f, h1, h2⟩ := map_some h
    cases h2
    exact o_some (cB_snd hr h1 ok)
def cSub (r : Rec) (Γ : Ctx) (a c : Expr) : Option (Den × Bool) := match c with
  | .Slice none none (some (.UnaryOp .USub (.Constant (.int i) _ _) _)) _ => if i = 1 then (cB r Γ a).map fun fa => (d1 aRev fa, true) else none
  | .Slice lo hi none _ => (cB r Γ a).bind fun fa => (cOpt r Γ lo).bind fun fl => (cOpt r Γ hi).map fun fh => (dCut fa fl fh, true)
  | c => if isSlice c = false then (match dicOf Γ a with
      | some i => (cB r Γ c).map fun fc => (dGetN i fc, false)
      | none => (cB r Γ a).bind fun fa => (cB r Γ c).map fun fc => (d2 aIx fa fc, false)) else none
theorem sub_snd {a c : Expr} (hr : Snd k r) (h : cSub r Γ a c = some (f, b)) (ok : XOk k Γ X) : PE X (.Subscript a c pos) (tE X.K .fz f) ∧ (b = true → PE X (.Subscript a c pos) (tE X.K .ow f)) ∧ (isIf (.Subscript a c pos) = false → PT X (.Subscript a c pos) (tT X.K (dT f))) := by
  unfold cSub at h
  split at h
  · obtain ⟨hi, h⟩ := ite_some h
    subst hi
    obtain ⟨fa, h1, h⟩ := map_some h
    cases h
    exact snd_owV (e_rev (cB_snd hr h1 ok)) (fun _ => rfl)
  · obtain ⟨fa, h1, h⟩ := bind_some h
    obtain ⟨fl, h2, h⟩ := bind_some h
    obtain ⟨fh, h3, h⟩ := map_some h
    cases h
    exact snd_owV (e_cut (cB_snd hr h1 ok) (opt_snd hr ok h2) (opt_snd hr ok h3)) (fun _ => rfl)
  · obtain ⟨hs, h⟩ := ite_some h
    split at h
    · rename_i i ed
      obtain ⟨fc, h2, h⟩ := map_some h
      cases h
      obtain ⟨x, px, rfl, hn⟩ := dicOf_ok ed ok
      exact snd_fzV (e_getN ok.u65 hn hs (cB_snd hr h2 ok)) (fun _ => rfl)
    obtain ⟨fa, h1, h⟩ := bind_some h
    obtain ⟨fc, h2, h⟩ := map_some h
    cases h
    exact snd_fzV (e_ix ok.u65 hs (cB_snd hr h1 ok) (cB_snd hr h2 ok)) (fun _ => rfl)
end
end PF
namespace PF
open PySem PySem.Spec PyProof.Rows L2
section
variable {K : PySem.W.Frag} {G H : Hp}
theorem ite24 {α : Type} {c : Prop} [Decidable c] {a : Option α} {b : α} (h : (if c then a else none) = some b) : c ∧ a = some b := by
  split at h
  · exact ⟨by assumption, h⟩
  · cases h
def aStr : D → Option D
  | .int i => if i.natAbs.log2 < 1920 then some (.str (toString i)) else none
  | .str z => some (.str z)
  | _ => none
def bStr : List D → Option D
  | [d] => aStr d
  | _ => none
theorem cal_str : Cal K (fun xs H Q => (∃ i, xs = [.int i] ∧ i.natAbs.log2 < 1920 ∧ Q (.str (toString i)) H) ∨ ∃ a, xs = [.str a] ∧ Q (.str a) H) bStr .ow := fun H G vs ds d Q gh r e q => by
  unfold bStr at e
  split at e
  · obtain ⟨v, rfl, rv⟩ := paired1 r
    unfold aStr at e
    split at e
    · rename_i i
      split at e
      · rename_i hi
        cases e
        cases rv.int
        exact .inl ⟨i, rfl, hi, q _ _ _ (Step.refl gh) (Rp.str _)⟩
      · cases e
    · cases e
      cases rv.str
      exact .inr ⟨_, rfl, q _ _ _ (Step.refl gh) (Rp.str _)⟩
    · cases e
  · cases e
def strsD : List D → Option (List Str)
  | [] => some []
  | .str z :: r => (strsD r).map fun l => z :: l
  | _ => none
theorem strsD_eq : ∀ {ds : List D} {ys : List Str}, strsD ds = some ys → ds = ys.map PyData.str
  | [], _, h => by cases h; rfl
  | d :: r, ys, h => by
    unfold strsD at h
    split at h
    · rename_i h0; cases h0
    · rename_i z r' h0
      cases h0
      obtain ⟨l, h1, h2⟩ := Option.map_eq_some_iff.mp h
      subst h2
      rw [strsD_eq h1]
      rfl
    · cases h
theorem RpAll.strs : ∀ {ys : List Str} {vs : List V}, RpAll K G vs (ys.map PyData.str) → vs = ys.map V.str
  | [], _, .nil => rfl
  | n :: r, _, .cons h t => by
    cases h
    rw [RpAll.strs (ys := r) t]
    rfl
def joinOk (a : Str) (ys : List Str) : Bool := decide ((ys.map (·.length)).sum + ys.length * a.length ≤ 16777216)
def aJoin : D → D → Option D
  | .str a, .list ds => (strsD ds).bind fun ys => if joinOk a ys = true then some (.str (Txt.join a ys)) else none
  | .str a, .tuple ds => (strsD ds).bind fun ys => if joinOk a ys = true then some (.str (Txt.join a ys)) else none
  | _, _ => none
def aSplit : D → D → Option D
  | .str a, .str b => if (b.length == 0) = false ∧ a.length + 2 ≤ sizeLine then some (.list ((Txt.split a b).map PyData.str)) else none
  | _, _ => none
def aIsdigit : D → Option D
  | .str a => some (.bool (Txt.isdigit a))
  | _ => none
end
section
variable {X : Cx} {o e : Expr} {fo fe : Den} {apos pos p : Pos}
def baseOk : Expr → Bool
  | .Name _ _ => true
  | .Constant _ _ _ => true
  | .Attribute _ _ _ => false
  | .Subscript _ _ _ => true
  | _ => false
theorem base_ok {m : Str} (h : baseOk o = true) : attributeBase o m X.env (eval o X.env) = eval o X.env := by
  cases o <;> first | rfl | (exact absurd h (by simp [baseOk]))
theorem e_join (hb : baseOk o = true) (hs : isStar e = false) (hl : (apos.endLine == pos.line) = true) (ho : PE X o (tE X.K .bw fo)) (he : PE X e (tE X.K .bw fe)) :
    PE X (.Call (.Attribute o "join" apos) [e] [] pos) (tE X.K .ow (d2 aJoin fo fe)) :=
  peW (pe_join ho he ((st1 (X := X) (es := []) hs).trans rfl) (base_ok hb) hl) fun σ H Q ⟨H0, G0, G, ρ, d, ok, hf, q⟩ => by
    unfold d2 at hf
    obtain ⟨x, e1, hf⟩ := Option.bind_eq_some_iff.mp hf
    obtain ⟨y, e2, hf⟩ := Option.bind_eq_some_iff.mp hf
    have go : ∀ (a : Str) (ds : List D), x = .str a → (y = .list ds ∨ y = .tuple ds) → ((strsD ds).bind fun ys => if joinOk a ys = true then some (PyData.str (Txt.join a ys)) else none) = some d →
        tM1 (fun x xs H Q => ∃ a p, ∃ ys : List Str, x = .str a ∧ xs = [.ref p] ∧ (SqL X.K H p (ys.map V.str) ∨ SqT X.K H p (ys.map V.str)) ∧ (ys.map (·.length)).sum + ys.length * a.length ≤ 16777216 ∧ Q (.str (Txt.join a ys)) H) (tE X.K .bw fo) (tE X.K .bw fe) σ H Q := by
      intro a ds hx hy h
      obtain ⟨ys, h1, h⟩ := Option.bind_eq_some_iff.mp h
      obtain ⟨hj, h⟩ := ite24 h
      cases h
      have hds := strsD_eq h1
      subst hx hds
      refine ⟨H0, G0, G, ρ, _, ok, e1, fun v H1 G1 s1 r1 => ?_⟩
      have r1 : Rb X.K H1 G1 v (.str a) := r1
      cases r1.str
      refine ⟨⟨a, rfl⟩, H0, G0, G1, ρ, _, ok.step s1, e2, fun u H2 G2 s2 r2 => ?_⟩
      have r2 : Rb X.K H2 G2 u y := r2
      rcases hy with rfl | rfl
      · obtain ⟨b, vs, rfl, hb, rr⟩ := Rb.lst s2.gh r2
        have ev := rr.strs
        subst ev
        exact ⟨a, b, ys, rfl, rfl, .inl (.inl hb), of_decide_eq_true hj, q _ _ _ (s1.trans s2) (Rp.str _)⟩
      · obtain ⟨b, vs, rfl, hb, rr⟩ := Rb.tup r2
        have ev := rr.strs
        subst ev
        exact ⟨a, b, ys, rfl, rfl, .inr (.inl (rdM s2.gh hb.rd)), of_decide_eq_true hj, q _ _ _ (s1.trans s2) (Rp.str _)⟩
    unfold aJoin at hf
    split at hf
    · exact go _ _ rfl (.inl rfl) hf
    · exact go _ _ rfl (.inr rfl) hf
    · cases hf
theorem strs_rp : ∀ {K : PySem.W.Frag} {G : Hp} (ys : List Str), RpAll K G (ys.map V.str) (ys.map PyData.str)
  | _, _, [] => .nil
  | _, _, y :: ys => .cons (.str y) (strs_rp ys)
theorem e_split (hb : baseOk o = true) (hs : isStar e = false) (hl : (apos.endLine == pos.line) = true) (ho : PE X o (tE X.K .bw fo)) (he : PE X e (tE X.K .bw fe)) :
    PE X (.Call (.Attribute o "split" apos) [e] [] pos) (tE X.K .ow (d2 aSplit fo fe)) :=
  peW (pe_split ho he ((st1 (X := X) (es := []) hs).trans rfl) (base_ok hb) hl) fun σ H Q ⟨H0, G0, G, ρ, d, ok, hf, q⟩ => by
    unfold d2 at hf
    obtain ⟨x, e1, hf1⟩ := Option.bind_eq_some_iff.mp hf
    obtain ⟨y, e2, hf2⟩ := Option.bind_eq_some_iff.mp hf1
    clear hf hf1
    unfold aSplit at hf2
    split at hf2
    · rename_i a c
      obtain ⟨⟨h1, h2⟩, h3⟩ := ite24 hf2
      cases h3
      refine ⟨H0, G0, G, ρ, _, ok, e1, fun v H1 G1 s1 r1 => ?_⟩
      have r1 : Rb X.K H1 G1 v (.str a) := r1
      cases r1.str
      refine ⟨⟨a, rfl⟩, H0, G0, G1, ρ, _, ok.step s1, e2, fun u H2 G2 s2 r2 => ?_⟩
      have r2 : Rb X.K H2 G2 u (.str c) := r2
      cases r2.str
      refine ⟨a, c, rfl, rfl, h1, h2, fun p hp => ?_⟩
      obtain ⟨s3, r3⟩ := ow_new s2.gh hp (strs_rp (K := X.K) (G := G2) (Txt.split a c))
      exact q _ _ _ ((s1.trans s2).trans s3) (Res.back (s1.trans s2) r3)
    · cases hf2
theorem e_isdigit (hb : baseOk o = true) (hl : (apos.endLine == pos.line) = true) (ho : PE X o (tE X.K .bw fo)) : PE X (.Call (.Attribute o "isdigit" apos) [] [] pos) (tE X.K .ow (d1 aIsdigit fo)) :=
  peW (pe_m0 PySem.F.slot_str_isdigit PySem.F.type_str_isdigit mt_isdigit ho (base_ok hb) hl) fun σ H Q ⟨H0, G0, G, ρ, d, ok, hf, q⟩ => by
    unfold d1 at hf
    obtain ⟨x, e1, hf1⟩ := Option.bind_eq_some_iff.mp hf
    clear hf
    unfold aIsdigit at hf1
    split at hf1
    · rename_i a
      cases hf1
      refine ⟨H0, G0, G, ρ, _, ok, e1, fun v H1 G1 s1 r1 => ?_⟩
      have r1 : Rb X.K H1 G1 v (.str a) := r1
      cases r1.str
      exact ⟨⟨a, rfl⟩, a, rfl, rfl, trivial, q _ _ _ s1 (ow_bool _)⟩
    · cases hf1
def bInt : List D → Option D
  | [.int i] => some (.int i)
  | [.bool k] => some (.int (if k then 1 else 0))
  | [.str z] => if z.length ≤ 640 then (PySem.intText? z).map PyData.int else none
  | _ => none
theorem cal_int {K : PySem.W.Frag} : Cal K (fun xs H Q => ((∃ i, xs = [.int i] ∧ Q (.int i) H) ∨ ∃ k, xs = [.bl k] ∧ Q (.int (if k then 1 else 0)) H) ∨ ∃ a n, xs = [.str a] ∧ PySem.intText? a = some n ∧ a.length ≤ 640 ∧ Q (.int n) H) bInt .ow := fun H G vs ds d Q gh r e q => by
  unfold bInt at e
  split at e
  · cases e
    obtain ⟨v, rfl, rv⟩ := paired1 r
    cases rv.int
    exact .inl (.inl ⟨_, rfl, q _ _ _ (Step.refl gh) (Rp.int _)⟩)
  · cases e
    obtain ⟨v, rfl, rv⟩ := paired1 r
    cases rv.bool
    exact .inl (.inr ⟨_, rfl, q _ _ _ (Step.refl gh) (Rp.int _)⟩)
  · obtain ⟨hz, e'⟩ := ite24 e
    obtain ⟨n, h1, h2⟩ := Option.map_eq_some_iff.mp e'
    subst h2
    obtain ⟨v, rfl, rv⟩ := paired1 r
    cases rv.str
    exact .inr ⟨_, n, rfl, h1, hz, q _ _ _ (Step.refl gh) (Rp.int _)⟩
  · cases e
def aFmt : D → Option Str
  | .str y => if y.length ≤ sizeLine then some y else none
  | .int i => if i.natAbs.log2 < 1920 then some (toString i) else none
  | _ => none
def fmts : List (Str ⊕ Den) → Str → Env → Option Str
  | [], acc, _ => some acc
  | .inl z :: r, acc, ρ => if (acc ++ z).length ≤ sizeLine then fmts r (acc ++ z) ρ else none
  | .inr f :: r, acc, ρ => (f ρ).bind fun d => (aFmt d).bind fun z => if (acc ++ z).length ≤ sizeLine then fmts r (acc ++ z) ρ else none
def dFmt (l : List (Str ⊕ Den)) : Den := fun ρ => (fmts l Str.empty ρ).map PyData.str
def tPart (X : Cx) : Str ⊕ Den → TE
  | .inl z => tC (.str z)
  | .inr f => tFmt (tE X.K .bw f)
theorem fmts_read {H0 G0 : Hp} : ∀ {l : List (Str ⊕ Den)} {acc : Str} {σ : L2.St} {H G : Hp} {ρ : Env} {z : Str} {Q : Str → Hp → Prop}, EnvOk X.K H0 G0 H G σ ρ → fmts l acc ρ = some z → (∀ H' G', Step X.K H G H' G' → Q z H') → tJs (l.map (tPart X)) acc σ H Q
  | [], acc, σ, H, G, ρ, z, Q, ok, h, q => by cases h; exact q H G (Step.refl ok.gh)
  | .inl y :: r, acc, σ, H, G, ρ, z, Q, ok, h, q => by
    obtain ⟨hl, h⟩ := ite24 h
    exact ⟨y, rfl, hl, fmts_read ok h q⟩
  | .inr f :: r, acc, σ, H, G, ρ, z, Q, ok, h, q => by
    obtain ⟨d, h1, h⟩ := Option.bind_eq_some_iff.mp h
    obtain ⟨y, h2, h3⟩ := Option.bind_eq_some_iff.mp h
    obtain ⟨hl, h4⟩ := ite24 h3
    clear h h3
    refine ⟨H0, G0, G, ρ, d, ok, h1, fun v H1 G1 s1 r1 => ?_⟩
    have r1 : Rb X.K H1 G1 v d := r1
    unfold aFmt at h2
    split at h2
    · obtain ⟨hy, h2⟩ := ite24 h2
      cases h2
      cases r1.str
      exact .inl ⟨y, rfl, hy, y, rfl, hl, fmts_read (ok.step s1) h4 fun H' G' s => q H' G' (s1.trans s)⟩
    · obtain ⟨hy, h2⟩ := ite24 h2
      cases h2
      cases r1.int
      exact .inr ⟨_, rfl, hy, _, rfl, hl, fmts_read (ok.step s1) h4 fun H' G' s => q H' G' (s1.trans s)⟩
    · cases h2
theorem e_fmt {v1 v2 : Expr} {rest : List Expr} {l : List (Str ⊕ Den)} (h : PJ X (v1 :: v2 :: rest) (l.map (tPart X))) : PE X (.JoinedStr (v1 :: v2 :: rest) pos) (tE X.K .ow (dFmt l)) :=
  peW (pe_joined h) fun σ H Q ⟨H0, G0, G, ρ, d, ok, hf, q⟩ => by
    unfold dFmt at hf
    obtain ⟨z, h1, h2⟩ := Option.map_eq_some_iff.mp hf
    subst h2
    exact fmts_read ok h1 fun H' G' s => q _ _ _ s (Rp.str _)
end
end PF
namespace PF
open PySem PySem.Spec PyProof.Rows L2 RZ
def IteF (k0 : Nat) (K : PySem.W.Frag) (a : Addr) : It :=
  ⟨fun i H => ∃ (xs : List V) (x : V), SqT K H a xs ∧ xs[i]? = some x, fun i H v H' => ∃ T x, v = .ref T ∧ H T = none ∧ H' = upd H T (.tup [.int ((k0 + i : Nat) : Int), x]) ∧ ∀ xs, SqT K H a xs → xs[i]? = some x, fun i H => ∃ xs : List V, SqT K H a xs ∧ xs.length ≤ i⟩
theorem turn_enumF {P : Program} {w : World} {K : PySem.W.Frag} {elts : List Expr} {kk : Nat} {tpos : Pos} (k0 : Nat) (a e it : Addr) :
    Turn P w K (.Tuple elts kk tpos) (IteF k0 K a) [e, it] e (fun i h => (∃ old, IsEnum h e it ((k0 + i : Nat) : Int) old) ∧ h.IsTupleIter it a i ∧ e ≠ it ∧ a ≠ it ∧ a ≠ e) where
  mem := by simp
  obj := fun i h st b hb => by
    obtain ⟨⟨old, he⟩, ⟨o, ho, hc, hd⟩, _⟩ := st
    have e' : b = e ∨ b = it := by simpa using hb
    rcases e' with z | z
    · rw [z]; exact ⟨_, he, fun v q => nomatch q⟩
    · rw [z]; exact ⟨o, ho, fun v q => by rw [hd] at q; cases q⟩
  keep := fun i h h' st k => let ⟨⟨old, he⟩, hi, hne⟩ := st; ⟨⟨old, k e (by simp) _ he⟩, hi.at fun o q => k it (by simp) o q, hne⟩
  item := by
    intro X hP hw hK hc i pins s σ H E I hf st hg
    subst hP hw hK
    obtain ⟨⟨old, he⟩, hit, hne, hai, hae⟩ := st
    obtain ⟨xs, x, hq, hx⟩ := hg
    obtain ⟨its, rv, p, hz⟩ := I.tuple hq
    obtain ⟨u, hu, ru⟩ := rv.get hx
    have hel : e < s.heap.objs.size := Heap.lt_size he
    have hil : it < s.heap.objs.size := by obtain ⟨_, q, _⟩ := hit; exact Heap.lt_size q
    have hIT : s.heap.IsTuple a its.toArray := p
    have hlt : i < its.toArray.size := by
      have := (List.getElem?_eq_some_iff.mp hu).1
      simpa using this
    refine wpAny_pyNext_enum_itemC (c := ((k0 + i : Nat) : Int)) (Draws.tuple (A := X.A.in1) (I.ok.hd hc) it a hai its.toArray) he ⟨hit, hIT⟩ hlt hne (by simp [hne, Ne.symm hae]) fun u' h' tk hu' ho hst hT hsz hk => ?_
    have eu : u' = u := by
      have q1 : its.toArray[i]? = some u := by simpa using hu
      exact Option.some.inj (hu'.symm.trans q1)
    subst eu
    refine ⟨_, rfl, wpAny_letOwnedTupleGo_enum (s := { s with heap := h', toks := tk + 1 }) ho fun h'' he' sb => ?_⟩
    have hT2 : h''.get? s.heap.objs.size = some { cls := .type "tuple", data := .seq #[.int ((k0 + i : Nat) : Int) tk, u'] } := (sb.2 _ (Nat.ne_of_gt hel)).trans hT
    have new : ObjOk X.prog X.w (upd H s.heap.objs.size (.tup [.int ((k0 + i : Nat) : Int), x])) h'' s.heap.objs.size (.tup [.int ((k0 + i : Nat) : Int), x]) :=
      ⟨by show 2 ≤ sizeLine; decide, [.int ((k0 + i : Nat) : Int) tk, u'], .cons ⟨_, rfl⟩ (.cons ru .nil), ⟨_, hT2, rfl, _, rfl⟩⟩
    have I1 : Inv X pins σ (upd H s.heap.objs.size (.tup [.int ((k0 + i : Nat) : Int), x])) { s with heap := h'', toks := tk + 1 } :=
      I.turnedNew (ch := [e, it]) (fun b ob hb q => (sb.2 b (fun z => hb (by simp [z]))).trans (hk b ob (fun z => hb (by simp [z])) (fun z => hb (by simp [z])) q)) hf (Nat.le_refl _) new
    refine ⟨.ref s.heap.objs.size, _, I1, rfl, ⟨_, x, rfl, I.hok.fresh (Nat.le_refl _), rfl, fun ys hy => by rw [I.tuple_inj hy hq]; exact hx⟩, ⟨⟨u', ?_⟩, hst.1.at fun o q => (sb.2 it (Ne.symm hne)).trans q, hne, hai, hae⟩, fun b hb => ?_⟩
    · have e1 : ((k0 + (i + 1) : Nat) : Int) = ((k0 + i : Nat) : Int) + 1 := by omega
      rw [e1]; exact he'
    · have hb' : b < s.heap.objs.size := by
        have e' : b = e ∨ b = it := by simpa using hb
        rcases e' with z | z
        · rw [z]; exact hel
        · rw [z]; exact hil
      rw [upd_ne (Nat.ne_of_lt hb')]
      exact (hf b hb).1
  done := by
    intro X hP hw hK hc i pins s σ H E I hf st hg
    subst hP hw hK
    obtain ⟨⟨old, he⟩, hit, hne, hai, hae⟩ := st
    obtain ⟨xs, hq, hx⟩ := hg
    obtain ⟨its, rv, p, hz⟩ := I.tuple hq
    obtain ⟨f0, f1, f2, f3, f4, f5⟩ := hf it (by simp)
    have hl := rv.length
    have hIT : s.heap.IsTuple a its.toArray := p
    refine wpAny_pyNext_enum_endD (n := i) (fp := [it, a]) (P := fun _ _ => True) (St := fun j h => j = i ∧ h.IsTupleIter it a i ∧ h.IsTuple a its.toArray) ?_ he ⟨rfl, hit, hIT⟩ fun h' eb => ⟨rfl, I.turned (t' := s.toks) (fun b o hb q => eb b o hb q) f0 f1 f3 f4 f5⟩
    exact {
      live := fun _ _ st => let ⟨o, ho, _⟩ := st.2.1; ⟨o, ho⟩
      frame := fun _ _ _ st hk => ⟨st.1, st.2.1.at fun o e => hk it (by simp) o e, st.2.2.at fun o e => hk a (by simp) o e⟩
      item := fun j s Q E hi st hQ => absurd hi (by rw [st.1]; exact Nat.lt_irrefl _)
      done := fun s Q E st hE => wpAny_nextOf_tuple_end (I.ok.hd hc) st.2.1 st.2.2 (by simp; omega) hE }
  self := fun A i s Q E st h => let ⟨⟨_, he⟩, _⟩ := st; wpAny_pyIter_enum he h
def iEnumF (k0 : Nat) (K : PySem.W.Frag) (ta : TA) : TI := fun σ H R => ta σ H fun vs H1 => ∃ a xs, vs = [.ref a] ∧ SqT K H1 a xs ∧ R (IteF k0 K a) H1
theorem cw_typeKw {M : Model} {A : Around} {E : Value → Shared → Prop} {s : Shared} {pos : Pos} {T : String} {args : List (Bool × Sem Value)} {kws : List (Option Str × Sem Value)} {Q : Value → Shared → Prop} (hp : args.any (·.1) = false) (hk : kws.any (·.1.isNone) = false)
    (h : wpAny M A (evalArgs (.type T) true args kws) (fun a s1 => wpAny M A (call (.type T) a.pos a.kw) Q E s1) E s) : wpAny M A (callWith pos (.type T) [] args kws) Q E s := by
  unfold callWith
  refine wpAny_bind (wpAny_holding (wpAny_mono h (fun a s1 h1 => wpAny_bind (wpAny_standAt ?_)) fun _ _ y => y))
  simp only [hp, hk, Bool.or_false, List.nil_append]
  refine wpAny_bind (wpAny_pure ?_)
  exact wpAny_bind (wpAny_mono h1 (fun r s2 hr => wpAny_bind (wpAny_holding (wpAny_point (wpAny_pure hr)))) fun _ _ y => y)
theorem pi_enumF {X : Cx} {e : Expr} {ta : TA} {p pos tpos kp cp : Pos} {elts : List Expr} {kk ck k0 : Nat} (hk0 : k0 < 1000000) (hg : Gl X "enumerate") (hm : X.mg "enumerate" = none) (ha : PA X [e] ta) (hs : starEach [e] X.env = [(false, eval e X.env)]) :
    PI X (.Tuple elts kk tpos) (.Call (.Name "enumerate" p) [e] [⟨some "start", .Constant (.int (k0 : Nat)) ck cp, kp⟩] pos) (iEnumF k0 X.K ta) := by
  refine ⟨fun pins s σ H R I h => ?_⟩
  refine wpAny_Call_Name_kw (ld_blt I hg hm boot_enumerate ?_ (by decide) (by decide))
  have hst : backTo pos (starEach [e] X.env) = (false, eval e X.env) :: [] := by rw [hs]; rfl
  refine cw_typeKw (by rw [hst]; rfl) rfl ?_
  rw [hst]
  refine evalArgs_kwB rfl ?_
  have run := ha.run pos pins s σ H (fun vs H1 => ∃ a xs, vs = [.ref a] ∧ SqT X.K H1 a xs ∧ R (IteF k0 X.K a) H1) I h
  rw [hst] at run
  refine thn run fun us s1 ⟨vs, H1, I1, r1, q1⟩ => ?_
  obtain ⟨a, xs, ex, hq, q⟩ := q1
  subst ex
  rw [Vals.ref1 r1]
  show wpAny _ _ (evalAll ((do let v ← eval (.Constant (.int (k0 : Nat)) ck cp) X.env; standAt pos; pure v) :: [])) _ _ s1
  refine wpAny_evalAll_cons (wpAny_bind (wpAny_mono ((pe_int (X := X) (i := ((k0 : Nat) : Int)) (j := ck) (pos := cp)).run pins s1 σ H1 (fun v H2 => v = .int (k0 : Nat) ∧ H2 = H1) I1 ⟨rfl, rfl⟩) (fun u s2 ⟨v, H2, I2, r2, e2, e3⟩ => wpAny_bind (wpAny_standAt (wpAny_pure ?_))) fun _ _ y => y))
  subst e2 e3
  obtain ⟨tk, rfl⟩ := r2
  refine wpAny_evalAll_nil ?_
  obtain ⟨its, rv, p', hz⟩ := I2.tuple hq
  have hIT : s2.heap.IsTuple a its.toArray := p'
  have hal : a < s2.heap.objs.size := by obtain ⟨_, q, _⟩ := hIT; exact Heap.lt_size q
  refine enum_begins_start (begins_tuple a its.toArray) hIT (by omega) (by omega) fun h' he hit hsz hk => wpAny_pyIter_enum he ?_
  have I3 : L2.Inv X pins σ H2 { s2 with heap := h' } := I2.kept (t' := s2.toks) hk
  refine ⟨s2.heap.objs.size + 1, [s2.heap.objs.size + 1, s2.heap.objs.size], _, _, H2, rfl, I3, turn_enumF k0 a (s2.heap.objs.size + 1) s2.heap.objs.size, ⟨⟨.none, he⟩, ⟨_, hit, rfl, rfl⟩, Nat.succ_ne_self _, Nat.ne_of_lt hal, Nat.ne_of_lt (Nat.lt_succ_of_lt hal)⟩, fun b hb => ?_, q⟩
  have e' : b = s2.heap.objs.size + 1 ∨ b = s2.heap.objs.size := by simpa using hb
  have hle : s2.heap.objs.size ≤ b := by
    rcases e' with z | z
    · rw [z]; exact Nat.le_add_right _ _
    · rw [z]; exact Nat.le_refl _
  exact I2.fpOk hle (I2.hok.fresh hle)
theorem it_enumF {K : PySem.W.Frag} {G : Hp} {C : Hp → Prop} {a : Addr} {vs : List V} {ds : List D} {k0 : Nat} (h : Rd G a (.tup vs)) (r : RpAll K G vs ds) (hl : ds.length ≤ sizeLine) : ItOk true K G C (IteF k0 K a) (enumD k0 ds) where
  len := by rw [enumD_length]; exact hl
  stop := fun H G' i _ g1 gh hi => ⟨vs, .inl (rdM (g1.trans gh) h), by rw [r.length]; rw [enumD_length] at hi; exact Nat.le_of_eq hi⟩
  go := fun H G' i d _ g1 gh hi => by
    obtain ⟨x, h1, rfl⟩ := enumD_get ds k0 i hi
    obtain ⟨v, h2, h3⟩ := r.get i h1
    refine ⟨⟨vs, v, .inl (rdM (g1.trans gh) h), h2⟩, fun y H' ⟨T, x', e1, e2, e3, e4⟩ => ?_⟩
    subst e1 e3
    have e5 := e4 vs (.inl (rdM (g1.trans gh) h))
    exact pair_new gh e2 (.int ((k0 + i : Nat) : Int)) ((r.atV h1 e5).mono g1)
section
variable {X : Cx} {e : Expr} {f : Den} {p pos : Pos}
def dEnumF (k0 : Nat) (f : Den) : Env → Option (List D) := fun ρ => match f ρ with
  | some (.tuple ds) => some (enumD k0 ds)
  | _ => none
theorem i_enumF {elts : List Expr} {kk ck k0 : Nat} {tpos kp cp : Pos} (hk0 : k0 < 1000000) (gl : Gl X "enumerate") (hm : X.mg "enumerate" = none) (na : isStar e = false) (he : PE X e (tE X.K .fz f)) : PI X (.Tuple elts kk tpos) (.Call (.Name "enumerate" p) [e] [⟨some "start", .Constant (.int (k0 : Nat)) ck cp, kp⟩] pos) (tI true X.K .fz (dEnumF k0 f)) :=
  piW (piL (pi_enumF hk0 gl hm (pa_cons he pa_nil (st1 na)) (st1 na))) fun σ H R ⟨H0, G0, G, ρ, items, ok, hf, q⟩ => by
    unfold dEnumF at hf
    split at hf
    · rename_i ds e1
      cases hf
      refine ⟨H0, G0, G, ρ, _, ok, e1, fun v H1 G1 s r => ?_⟩
      cases r with
      | tup h rr => exact ⟨_, _, rfl, .inl (rdM s.gh h.rd), ds.length, .inl ⟨_, _, .inr (.inl (rdM s.gh h.rd)), by rw [rr.length]; exact Nat.le_refl _⟩, fun hl => q _ _ _ s (it_enumF h.rd rr hl)⟩
    · cases hf
theorem i_enumFB {elts : List Expr} {kk ck k0 : Nat} {tpos kp cp : Pos} (hk0 : k0 < 1000000) (gl : Gl X "enumerate") (hm : X.mg "enumerate" = none) (na : isStar e = false) (he : PE X e (tE X.K .bw f)) : PI X (.Tuple elts kk tpos) (.Call (.Name "enumerate" p) [e] [⟨some "start", .Constant (.int (k0 : Nat)) ck cp, kp⟩] pos) (tI true X.K .bw (dEnumF k0 f)) :=
  piW (piL (pi_enumF hk0 gl hm (pa_cons he pa_nil (st1 na)) (st1 na))) fun σ H R ⟨H0, G0, G, ρ, items, ok, hf, q⟩ => by
    unfold dEnumF at hf
    split at hf
    · rename_i ds e1
      cases hf
      refine ⟨H0, G0, G, ρ, _, ok, e1, fun v H1 G1 s r => ?_⟩
      obtain ⟨a, vs, rfl, h, rr⟩ := Rb.tup r
      exact ⟨_, _, rfl, .inl (rdM s.gh h.rd), ds.length, .inl ⟨_, _, .inr (.inl (rdM s.gh h.rd)), by rw [rr.length]; exact Nat.le_refl _⟩, fun hl => q _ _ _ s (it_enumF h.rd rr hl)⟩
    · cases hf
end
end PF
namespace PF
open PySem PySem.Spec PyProof.Rows L2 RZ
section
variable {k : Nat} {r : Rec} {Γ : Ctx} {X : Cx} {e : Expr} {f : Den} {b : Bool} {pos p : Pos}
def kdOf (x : Str) : Option Kd := if x = "int" then some .int else if x = "bool" then some .bool else if x = "str" then some .str else if x = "list" then some .list else if x = "tuple" then some .tuple else none
theorem boot_kd {x : Str} {kd : Kd} (h : kdOf x = some kd) : bootBuiltins x = some (.type kd.nm) ∧ x ∈ bltNames := by
  unfold kdOf at h
  split at h
  · rename_i e; cases h; rw [e]; exact ⟨by decide +kernel, by decide +kernel⟩
  · split at h
    · rename_i e; cases h; rw [e]; exact ⟨by decide +kernel, by decide +kernel⟩
    · split at h
      · rename_i e; cases h; rw [e]; exact ⟨by decide +kernel, by decide +kernel⟩
      · split at h
        · rename_i e; cases h; rw [e]; exact ⟨by decide +kernel, by decide +kernel⟩
        · split at h
          · rename_i e; cases h; rw [e]; exact ⟨by decide +kernel, by decide +kernel⟩
          · cases h
def cKs (Γ : Ctx) : List Expr → Option (List Kd)
  | [] => some []
  | .Name T _ :: es => if glB Γ.sc T = true then (kdOf T).bind fun kd => (cKs Γ es).map fun ks => kd :: ks else none
  | _ :: _ => none
theorem ks_snd (ok : XOk k Γ X) : ∀ {es : List Expr} {ks : List Kd}, cKs Γ es = some ks → KNames X es ks
  | [], _, h => by cases h; exact .nil
  | e :: es, ks, h => by
    cases e with
    | Name T pT =>
      obtain ⟨h1, h⟩ := ite_some h
      obtain ⟨kd, h2, h⟩ := bind_some h
      obtain ⟨ks', h3, h⟩ := map_some h
      cases h
      obtain ⟨g1, g2, g3⟩ := ok.gl h1
      obtain ⟨b1, b2⟩ := boot_kd h2
      exact .cons g1 (ok.blt _ b2) b1 g2 g3 (ks_snd ok h3)
    | _ => cases h
def cIsi (r : Rec) (Γ : Ctx) (a c : Expr) : Option (Den × Bool) := if isStar a = false then (cB r Γ a).bind fun fa => match c with
  | .Name T _ => if glB Γ.sc T = true then (kdOf T).map fun kd => (dIsi [kd] fa, true) else none
  | .Tuple es _ _ => (cKs Γ es).bind fun ks => if ks.length ≤ 1000 then some (dIsi ks fa, true) else none
  | _ => none
  else none
def cRg (r : Rec) (Γ : Ctx) : List Expr → Option (Env → Option (List D))
  | [a] => if isStar a = false then (cB r Γ a).map fun fa => dRg (dC (.int 0)) fa else none
  | [a, c] => if isStar a = false ∧ isStar c = false then (cB r Γ a).bind fun fa => (cB r Γ c).map fun fc => dRg fa fc else none
  | _ => none
def isRg (Γ : Ctx) : Expr → Bool
  | .Call (.Name x _) _ [] _ => decide (x = "range") && glB Γ.sc x
  | _ => false
def rgArgs : Expr → List Expr
  | .Call _ as _ _ => as
  | _ => []
def bltB (x : Str) : Option (List D → Option D) := if x = "len" then some bLen else if x = "sum" then some bSum else if x = "all" then some bAll else if x = "any" then some bAny else if x = "min" then some bMin else if x = "max" then some bMax else if x = "sorted" then some bSorted else none
theorem bltB_snd {x : Str} {g : List D → Option D} (hc : X.calm = true) (hu : X.A.units + 66 < cLine) (hu2 : X.A.units + 68 < cLine) (h : bltB x = some g) : x ∈ bltNames ∧ ∃ id rr, bootBuiltins x = some (.builtin id) ∧ CallR X (.builtin id) rr ∧ Cal X.K rr g .ow := by
  unfold bltB at h
  split at h
  · rename_i e; cases h; rw [e]; exact ⟨by decide +kernel, _, _, PySem.boot_len, call_len_seq.or call_len_str, cal_len⟩
  · split at h
    · rename_i e; cases h; rw [e]; exact ⟨by decide +kernel, _, _, (by decide +kernel : bootBuiltins "sum" = some (.builtin "sum")), cr_sum hc, cal_sum⟩
    · split at h
      · rename_i e; cases h; rw [e]; exact ⟨by decide +kernel, _, _, (by decide +kernel : bootBuiltins "all" = some (.builtin "all")), cr_all hc, cal_all⟩
      · split at h
        · rename_i e; cases h; rw [e]; exact ⟨by decide +kernel, _, _, (by decide +kernel : bootBuiltins "any" = some (.builtin "any")), cr_any hc, cal_any⟩
        · split at h
          · rename_i e; cases h; rw [e]; exact ⟨by decide +kernel, _, _, (by decide +kernel : bootBuiltins "min" = some (.builtin "min")), (call_min2 hc).or (cr_minD hc hu), cal_min⟩
          · split at h
            · rename_i e; cases h; rw [e]; exact ⟨by decide +kernel, _, _, (by decide +kernel : bootBuiltins "max" = some (.builtin "max")), (call_max2 hc).or (cr_maxD hc hu), cal_max⟩
            · split at h
              · rename_i e; cases h; rw [e]; exact ⟨by decide +kernel, _, _, (by decide +kernel : bootBuiltins "sorted" = some (.builtin "sorted")), cr_sortD hu2, cal_sort⟩
              · cases h
def lenOf (Γ : Ctx) (x : Str) (as : List Expr) : Option Nat := if x = "len" then (match as with | [a] => dicOf Γ a | _ => none) else none
theorem lenOf_eq {x : Str} {as : List Expr} {i : Nat} (h : lenOf Γ x as = some i) : x = "len" ∧ ∃ a, as = [a] ∧ dicOf Γ a = some i := by
  unfold lenOf at h
  obtain ⟨h1, h⟩ := ite_some h
  split at h
  · exact ⟨h1, _, rfl, h⟩
  · cases h
def srtOf (Γ : Ctx) (x : Str) (as : List Expr) : Option Expr := if x = "sorted" then (match as with | [.Call (.Name y _) [a] [] _] => if y = "set" ∧ glB Γ.sc "set" = true ∧ isStar a = false then some a else none | _ => none) else none
theorem srtOf_eq {x : Str} {as : List Expr} {a : Expr} (h : srtOf Γ x as = some a) : x = "sorted" ∧ glB Γ.sc "set" = true ∧ isStar a = false ∧ ∃ p q, as = [.Call (.Name "set" p) [a] [] q] := by
  unfold srtOf at h
  obtain ⟨h1, h⟩ := ite_some h
  split at h
  · obtain ⟨⟨h2, h3, h4⟩, h⟩ := ite_some h
    cases h
    subst h2
    exact ⟨h1, h3, h4, _, _, rfl⟩
  · cases h
def lnsOf (Γ : Ctx) (x : Str) (as : List Expr) : Option Expr := if x = "len" then (match as with | [.Call (.Name y _) [a] [] _] => if y = "set" ∧ glB Γ.sc "set" = true ∧ isStar a = false then some a else none | _ => none) else none
theorem lnsOf_eq {x : Str} {as : List Expr} {a : Expr} (h : lnsOf Γ x as = some a) : x = "len" ∧ glB Γ.sc "set" = true ∧ isStar a = false ∧ ∃ p q, as = [.Call (.Name "set" p) [a] [] q] := by
  unfold lnsOf at h
  obtain ⟨h1, h⟩ := ite_some h
  split at h
  · obtain ⟨⟨h2, h3, h4⟩, h⟩ := ite_some h
    cases h
    subst h2
    exact ⟨h1, h3, h4, _, _, rfl⟩
  · cases h
def cCall (r : Rec) (Γ : Ctx) (x : Str) (as : List Expr) : Option (Den × Bool) := if glB Γ.sc x = true then
    match Γ.fns.lookup x with
    | some (n, g) => if as ≠ [] then (cArgs r Γ as).bind fun fs => if fs.length = n then some (dCall g fs, false) else none else none
    | none => if x = "isinstance" then (match as with | [a, c] => cIsi r Γ a c | _ => none)
      else if x = "tuple" then (match as with
        | [a] => if isRg Γ a = true then (cRg r Γ (rgArgs a)).map fun it => (dTupOf it, true) else (cArgsB r Γ [a]).map fun fs => (dCall bTuple fs, true)
        | _ => none)
      else if x = "list" then (match as with
        | [a] => if isRg Γ a = true then (cRg r Γ (rgArgs a)).map fun it => (dLstOf it, true) else (cArgsB r Γ [a]).map fun fs => (dCall bList fs, true)
        | _ => none)
      else if x = "bool" then (match as with
        | [a] => (cArgsB r Γ [a]).map fun fs => (dCall bBool fs, true)
        | _ => none)
      else if x = "str" then (match as with
        | [a] => (cArgsB r Γ [a]).map fun fs => (dCall bStr fs, true)
        | _ => none)
      else if x = "int" then (match as with
        | [a] => (cArgsB r Γ [a]).map fun fs => (dCall bInt fs, true)
        | _ => none)
      else match lenOf Γ x as with
      | some i => some (dLenN i, true)
      | none => match srtOf Γ x as with
      | some a => (cB r Γ a).map fun f => (d1 aSrtSet f, true)
      | none => match lnsOf Γ x as with
      | some a => (cB r Γ a).map fun f => (d1 aLenSet f, true)
      | none => (bltB x).bind fun g => if as ≠ [] then (cArgsB r Γ as).map fun fs => (dCall g fs, true) else none
  else none
theorem rg_shape {a : Expr} (h : isRg Γ a = true) : ∃ p2 l q2, a = .Call (.Name "range" p2) l [] q2 ∧ glB Γ.sc "range" = true ∧ rgArgs a = l := by
  unfold isRg at h
  split at h
  · rename_i x p2 l q2
    simp only [Bool.and_eq_true, decide_eq_true_eq] at h
    obtain ⟨h1, h2⟩ := h
    subst h1
    exact ⟨p2, l, q2, rfl, h2, rfl⟩
  · cases h
theorem call_snd {x : Str} {as : List Expr} (hr : Snd k r) (h : cCall r Γ x as = some (f, b)) (ok : XOk k Γ X) : PE X (.Call (.Name x p) as [] pos) (tE X.K .fz f) ∧ (b = true → PE X (.Call (.Name x p) as [] pos) (tE X.K .ow f)) ∧ (isIf (.Call (.Name x p) as [] pos) = false → PT X (.Call (.Name x p) as [] pos) (tT X.K (dT f))) := by
  replace h := ite_some h
  obtain ⟨hgl, h⟩ := h
  obtain ⟨g1, g2, g3⟩ := ok.gl hgl
  split at h
  · rename_i n g el
    obtain ⟨hne, h⟩ := ite_some h
    obtain ⟨fs, h1, h⟩ := bind_some h
    obtain ⟨hl, h⟩ := ite_some h
    cases h
    obtain ⟨q1, q2⟩ := args_snd hr ok h1
    obtain ⟨fa, fd, ps, m1, m2, m3, m4⟩ := ok.fns _ _ _ el
    cases as with
    | nil => exact absurd rfl hne
    | cons e es => exact snd_fzV (e_call m4 ok.room g1 m1 m2 m3 g3 hl q2 q1) (fun _ => rfl)
  · split at h
    · rename_i ex
      subst ex
      split at h
      · rename_i a c
        obtain ⟨hs, h⟩ := ite_some h
        obtain ⟨fa, h1, h⟩ := bind_some h
        have ha := cB_snd hr h1 ok
        split at h
        · obtain ⟨gT, h⟩ := ite_some h
          obtain ⟨kd, h2, h3⟩ := map_some h
          cases h3
          obtain ⟨t1, t2, t3⟩ := ok.gl gT
          obtain ⟨b1, b2⟩ := boot_kd h2
          exact snd_owV (e_isi g1 (ok.blt _ (by decide +kernel)) t1 (ok.blt _ b2) b1 t2 t3 hs ha) (fun _ => rfl)
        · obtain ⟨ks, h2, h⟩ := bind_some h
          obtain ⟨hl, h⟩ := ite_some h
          cases h
          exact snd_owV (e_isiT g1 (ok.blt _ (by decide +kernel)) (ks_snd ok h2) hl hs ha) (fun _ => rfl)
        · cases h
      · cases h
    · split at h
      · rename_i ex
        subst ex
        split at h
        · rename_i a
          split at h
          · rename_i hrg
            obtain ⟨it, h1, h2⟩ := map_some h
            cases h2
            obtain ⟨p2, l, q2, rfl, gr, el⟩ := rg_shape hrg
            rw [el] at h1
            obtain ⟨r1, _, _⟩ := ok.gl gr
            unfold cRg at h1
            split at h1
            · obtain ⟨hs, h1⟩ := ite_some h1
              obtain ⟨fa, h2, h3⟩ := map_some h1
              cases h3
              exact snd_owV (e_tupRg1 ok.calm g1 (ok.blt _ (by decide +kernel)) r1 (ok.blt _ (by decide +kernel)) hs (cB_snd hr h2 ok)) (fun _ => rfl)
            · obtain ⟨hs, h1⟩ := ite_some h1
              obtain ⟨fa, h2, h1⟩ := bind_some h1
              obtain ⟨fc, h3, h4⟩ := map_some h1
              cases h4
              exact snd_owV (e_tupRg2 ok.calm g1 (ok.blt _ (by decide +kernel)) r1 (ok.blt _ (by decide +kernel)) hs.1 hs.2 (cB_snd hr h2 ok) (cB_snd hr h3 ok)) (fun _ => rfl)
            · cases h1
          · obtain ⟨fs, h1, h2⟩ := map_some h
            cases h2
            obtain ⟨q1, q2⟩ := argsB_snd hr ok h1
            exact snd_owV (e_callTy TN.call_tupleN cal_tuple g1 (ok.blt _ (by decide +kernel)) (by decide +kernel) g2 g3 q2 q1) (fun _ => rfl)
        · cases h
      · split at h
        · rename_i ex
          subst ex
          split at h
          · rename_i a
            split at h
            · rename_i hrg
              obtain ⟨it, h1, h2⟩ := map_some h
              cases h2
              obtain ⟨p2, l, q2, rfl, gr, el⟩ := rg_shape hrg
              rw [el] at h1
              obtain ⟨r1, _, _⟩ := ok.gl gr
              unfold cRg at h1
              split at h1
              · obtain ⟨hs, h1⟩ := ite_some h1
                obtain ⟨fa, h2, h3⟩ := map_some h1
                cases h3
                exact snd_owV (e_listRg1 ok.calm g1 (ok.blt _ (by decide +kernel)) r1 (ok.blt _ (by decide +kernel)) hs (cB_snd hr h2 ok)) (fun _ => rfl)
              · obtain ⟨hs, h1⟩ := ite_some h1
                obtain ⟨fa, h2, h1⟩ := bind_some h1
                obtain ⟨fc, h3, h4⟩ := map_some h1
                cases h4
                exact snd_owV (e_listRg2 ok.calm g1 (ok.blt _ (by decide +kernel)) r1 (ok.blt _ (by decide +kernel)) hs.1 hs.2 (cB_snd hr h2 ok) (cB_snd hr h3 ok)) (fun _ => rfl)
              · cases h1
            · obtain ⟨fs, h1, h2⟩ := map_some h
              cases h2
              obtain ⟨q1, q2⟩ := argsB_snd hr ok h1
              exact snd_owV (e_callTy (call_list_of.or (DN.call_listN ok.calm)) cal_list g1 (ok.blt _ (by decide +kernel)) (by decide +kernel) g2 g3 q2 q1) (fun _ => rfl)
          · cases h
        · split at h
          · rename_i ex
            subst ex
            split at h
            · obtain ⟨fs, h1, h2⟩ := map_some h
              cases h2
              obtain ⟨q1, q2⟩ := argsB_snd hr ok h1
              exact snd_owV (e_callTy call_bool1 cal_bool g1 (ok.blt _ (by decide +kernel)) (by decide +kernel) g2 g3 q2 q1) (fun _ => rfl)
            · cases h
          · split at h
            · rename_i ex
              subst ex
              split at h
              · obtain ⟨fs, h1, h2⟩ := map_some h
                cases h2
                obtain ⟨q1, q2⟩ := argsB_snd hr ok h1
                exact snd_owV (e_callTy (call_str_int.or SkE.call_str_str) cal_str g1 (ok.blt _ (by decide +kernel)) (by decide +kernel) g2 g3 q2 q1) (fun _ => rfl)
              · cases h
            · split at h
              · rename_i ex
                subst ex
                split at h
                · obtain ⟨fs, h1, h2⟩ := map_some h
                  cases h2
                  obtain ⟨q1, q2⟩ := argsB_snd hr ok h1
                  exact snd_owV (e_callTy (call_int1.or call_int_str) cal_int g1 (ok.blt _ (by decide +kernel)) (by decide +kernel) g2 g3 q2 q1) (fun _ => rfl)
                · cases h
              · split at h
                · rename_i i el
                  cases h
                  obtain ⟨rfl, a, rfl, hd⟩ := lenOf_eq el
                  obtain ⟨x, px, rfl, hn⟩ := dicOf_ok hd ok
                  exact snd_owV (e_lenN hn g1 (ok.blt _ (by decide +kernel)) g2 g3) (fun _ => rfl)
                · split at h
                  · rename_i a el
                    obtain ⟨fa, h1, h2⟩ := map_some h
                    cases h2
                    obtain ⟨rfl, hs, hst, p2, q2, rfl⟩ := srtOf_eq el
                    obtain ⟨s1, _, _⟩ := ok.gl hs
                    exact snd_owV (e_srtSet ok.calm (by have := ok.room.un; omega) g1 (ok.blt _ (by decide +kernel)) s1 (ok.blt _ (by decide +kernel)) hst (cB_snd hr h1 ok)) (fun _ => rfl)
                  · split at h
                    · rename_i a el
                      obtain ⟨fa, h1, h2⟩ := map_some h
                      cases h2
                      obtain ⟨rfl, hs, hst, p2, q2, rfl⟩ := lnsOf_eq el
                      obtain ⟨s1, _, _⟩ := ok.gl hs
                      exact snd_owV (e_lenSet ok.calm (by have := ok.room.un; omega) g1 (ok.blt _ (by decide +kernel)) s1 (ok.blt _ (by decide +kernel)) hst (cB_snd hr h1 ok)) (fun _ => rfl)
                    · obtain ⟨g, hb, h⟩ := bind_some h
                      obtain ⟨hne, h⟩ := ite_some h
                      obtain ⟨fs, h1, h2⟩ := map_some h
                      cases h2
                      obtain ⟨q1, q2⟩ := argsB_snd hr ok h1
                      obtain ⟨m1, id, rr, m2, m3, m4⟩ := bltB_snd (X := X) ok.calm (by have := ok.room.un; omega) (by have := ok.room.un; omega) hb
                      cases as with
                      | nil => exact absurd rfl hne
                      | cons e es => exact snd_owV (e_callB m3 m4 g1 (ok.blt _ m1) m2 g2 g3 q2 q1) (fun _ => rfl)
def findK : List (Str × List Str × Nat × Bool × (List D → List D → Option D)) → Str → List Str → Option (Nat × Bool × (List D → List D → Option D))
  | [], _, _ => none
  | (y, ls, q) :: r, x, ks => if y = x ∧ ls = ks then some q else findK r x ks
theorem findK_mem : ∀ {l : List (Str × List Str × Nat × Bool × (List D → List D → Option D))} {x : Str} {ks : List Str} {n : Nat} {o : Bool} {F : List D → List D → Option D}, findK l x ks = some (n, o, F) → (x, ks, n, o, F) ∈ l
  | [], _, _, _, _, _, h => by cases h
  | (y, ls, q) :: r, x, ks, n, o, F, h => by
    unfold findK at h
    split at h
    · rename_i e
      cases h
      rw [e.1, e.2]
      exact List.mem_cons_self ..
    · exact List.mem_cons_of_mem _ (findK_mem h)
theorem kw_args (hr : Snd k r) (ok : XOk k Γ X) : ∀ {kws : List Keyword} {ks : List Str} {vs : List Expr} {zs : List Den}, kwOf kws = some (ks, vs) → cArgs r Γ vs = some zs → PK X kws (tA X.K (dArgs zs))
  | [], _, _, _, h, h2 => by
    cases h
    cases h2
    exact k_nil
  | ⟨n, v, p⟩ :: kws, _, _, _, h, h2 => by
    obtain ⟨m, ks', vs', rfl, h3, rfl, rfl⟩ := kwOf_cons h
    obtain ⟨hs, h2⟩ := ite_some h2
    obtain ⟨f, h4, h2⟩ := bind_some h2
    obtain ⟨fs, h5, h6⟩ := map_some h2
    cases h6
    exact k_cons (cF_snd hr h4 ok).1 (kw_args hr ok h3 h5)
def bestB (x : Str) : Option (D → List D → D) := if x = "min" then some PySem.W.minD else if x = "max" then some PySem.W.maxD else none
def isLenN : Expr → Bool
  | .Name x _ => decide (x = "len")
  | _ => false
theorem isLenN_eq {c : Expr} (h : isLenN c = true) : ∃ p2, c = .Name "len" p2 := by
  unfold isLenN at h
  split at h
  · rename_i x p2
    rw [of_decide_eq_true h]
    exact ⟨p2, rfl⟩
  · cases h
def cCallL (r : Rec) (Γ : Ctx) (x : Str) (as : List Expr) : Option (Den × Bool) := match Γ.lks.lookup x with
  | some (m, n, g) => if glB Γ.sc x = true ∧ as ≠ [] then (cArgsM r Γ m as).bind fun fs => if fs.length = n then some (dCall g fs, false) else none else none
  | none => cCall r Γ x as
theorem callL_snd {x : Str} {as : List Expr} (hr : Snd k r) (h : cCallL r Γ x as = some (f, b)) (ok : XOk k Γ X) : PE X (.Call (.Name x p) as [] pos) (tE X.K .fz f) ∧ (b = true → PE X (.Call (.Name x p) as [] pos) (tE X.K .ow f)) ∧ (isIf (.Call (.Name x p) as [] pos) = false → PT X (.Call (.Name x p) as [] pos) (tT X.K (dT f))) := by
  unfold cCallL at h
  split at h
  · rename_i m n g el
    obtain ⟨⟨hgl, hne⟩, h⟩ := ite_some h
    obtain ⟨fs, h1, h⟩ := bind_some h
    obtain ⟨hl, h⟩ := ite_some h
    cases h
    obtain ⟨g1, g2, g3⟩ := ok.gl hgl
    obtain ⟨q1, q2⟩ := argsM_snd hr ok h1
    cases as with
    | nil => exact absurd rfl hne
    | cons e es => exact snd_fzV (e_callL (ok.lks _ _ _ _ el) ok.room g1 g3 hl q2 q1) (fun _ => rfl)
  · exact call_snd hr h ok
def isLam : Expr → Bool
  | .Lambda .. => true
  | _ => false
def Ctx.lamIn (Γ : Ctx) (scope : Scope) : Ctx := { Γ with sc := scope, blk := some scope, lam := false }
open LK LamX in
theorem XOk.lamIn (ok : XOk k Γ X) {scope : Scope} {pm : Str} (L : LamP X.env.scope scope pm) {A : Around} {s : Shared} {H : Hp} {f c' : Addr} (hr : Room k (A.deeper (lamEnv X scope s.heap.objs.size f c'))) : XOk k (Γ.lamIn scope) (lamCx X A X.stack s H C8.E0 scope f c').nox where
  N := ok.N
  nd := ok.nd
  sc := rfl
  calm := rfl
  room := hr
  xe := rfl
  fn := fun x h => by
    have h' : (scope.names.lookup x == some .cell || scope.names.lookup x == some .local) = true := h
    rw [Bool.or_eq_true] at h'
    rcases h' with h' | h'
    · exact absurd rfl (L.cel _ (PySem.mem_of_lookup (beq_iff_eq.mp h')))
    · exact .inr (beq_iff_eq.mp h')
  fns := ok.fns
  fks := ok.fks
  lks := ok.lks
  blt := ok.blt
  gls := ok.gls
  lamF := fun z => nomatch z
def keyOf (x : Str) (i : Nat) (fa fb : Den) : Option (Den × Bool) := if x = "sorted" then some (dSortKey i fa fb, true) else if x = "max" then some (dMaxKey i fa fb, false) else none
def cKey (r : Rec) (Γ : Ctx) (x : Str) (a c : Expr) : Option (Den × Bool) := match c with
  | .Lambda params body scope _ => if Γ.lam = true ∧ Γ.blk.isNone = true ∧ glB Γ.sc x = true ∧ isStar a = false then (onePar params).bind fun pm => (slotOf Γ.N pm).bind fun i => if LK.lamPB Γ.sc scope pm = true then (cB r Γ a).bind fun fa => (cF r (Γ.lamIn scope) body).bind fun fb => keyOf x i fa fb else none else none
  | _ => none
theorem keyOf_snd {x pm : Str} {a body : Expr} {i : Nat} {fa fb : Den} {scope : Scope} {params : Arguments} {kp lp : Pos} (h : keyOf x i fa fb = some (f, b)) (ok : XOk k Γ X) (g1 : Gl X x) (na : isStar a = false) (hi : X.N[i]? = some pm) (hop : onePar params = some pm) (L : LK.LamP X.env.scope scope pm) (F : LamF X) (hroom : Room (k + 3) X.A) (ha : PE X a (tE X.K .bw fa)) (hb : LBody X k scope body fb) :
    PE X (.Call (.Name x p) [a] [⟨some "key", .Lambda params body scope lp, kp⟩] pos) (tE X.K .fz f) ∧ (b = true → PE X (.Call (.Name x p) [a] [⟨some "key", .Lambda params body scope lp, kp⟩] pos) (tE X.K .ow f)) ∧ (isIf (.Call (.Name x p) [a] [⟨some "key", .Lambda params body scope lp, kp⟩] pos) = false → PT X (.Call (.Name x p) [a] [⟨some "key", .Lambda params body scope lp, kp⟩] pos) (tT X.K (dT f))) := by
  unfold keyOf at h
  split at h
  · rename_i ex
    subst ex
    cases h
    exact snd_owV (e_sortLam g1 (ok.blt _ (by decide +kernel)) na ok.nd hi hop L F hroom ha hb) (fun _ => rfl)
  · obtain ⟨ex, h'⟩ := ite_some h
    clear h
    subst ex
    cases h'
    exact snd_fzV (e_maxLam ok.calm g1 (ok.blt _ (by decide +kernel)) na ok.nd hi hop L F hroom ha hb) (fun _ => rfl)
theorem key_snd {x : Str} {a c : Expr} {kp : Pos} (hr : Snd k r) (h : cKey r Γ x a c = some (f, b)) (ok : XOk k Γ X) : PE X (.Call (.Name x p) [a] [⟨some "key", c, kp⟩] pos) (tE X.K .fz f) ∧ (b = true → PE X (.Call (.Name x p) [a] [⟨some "key", c, kp⟩] pos) (tE X.K .ow f)) ∧ (isIf (.Call (.Name x p) [a] [⟨some "key", c, kp⟩] pos) = false → PT X (.Call (.Name x p) [a] [⟨some "key", c, kp⟩] pos) (tT X.K (dT f))) := by
  unfold cKey at h
  split at h
  · rename_i params body scope lp
    obtain ⟨⟨h1, h2, h3, na⟩, h⟩ := ite_some h
    obtain ⟨pm, e1, h⟩ := bind_some h
    obtain ⟨i, e2, h⟩ := bind_some h
    obtain ⟨hL, h⟩ := ite_some h
    obtain ⟨fa, e3, h⟩ := bind_some h
    obtain ⟨fb, e4, h⟩ := bind_some h
    obtain ⟨LF, hroom⟩ := ok.lamF h1 (Option.isNone_iff_eq_none.mp h2)
    have L : LK.LamP X.env.scope scope pm := by
      rw [ok.sc]
      exact LK.lamP_by hL
    obtain ⟨g1, g2, g3⟩ := ok.gl h3
    have hi : X.N[i]? = some pm := by rw [ok.N]; exact slotOf_get e2
    have hb : LBody X k scope body fb := fun A s H f c' hrr => (cF_snd hr e4 (ok.lamIn L hrr)).1
    exact keyOf_snd h ok g1 na hi e1 L LF hroom (cB_snd hr e3 ok) hb
  · cases h
def cCallA (r : Rec) (Γ : Ctx) (x : Str) (as : List Expr) (kws : List Keyword) : Option (Den × Bool) := (kwOf kws).bind fun q => match findK Γ.fks x q.1 with
  | some (n, o, F) => if glB Γ.sc x = true ∧ as ≠ [] then (cArgs r Γ as).bind fun fs => (cArgs r Γ q.2).bind fun zs => if fs.length = n ∧ zs.length = q.1.length then some (dCallK F fs zs, o) else none else none
  | none => match kws, as with
    | [], as => cCallL r Γ x as
    | [⟨some n, c, _⟩], [a] => if n = "key" ∧ isLam c = true then cKey r Γ x a c else if n = "key" ∧ x = "min" ∧ isLenN c = true ∧ isStar a = false ∧ glB Γ.sc x = true ∧ glB Γ.sc "len" = true then (cB r Γ a).map fun fa => (d1 aMinLen fa, false) else if n = "default" ∧ isStar a = false ∧ glB Γ.sc x = true then (bestB x).bind fun m => (cB r Γ a).bind fun fa => (cB r Γ c).map fun fc => (d2 (aBestD m) fa fc, true) else none
    | _, _ => none
theorem callA_snd {x : Str} {as : List Expr} {kws : List Keyword} (hr : Snd k r) (h : cCallA r Γ x as kws = some (f, b)) (ok : XOk k Γ X) : PE X (.Call (.Name x p) as kws pos) (tE X.K .fz f) ∧ (b = true → PE X (.Call (.Name x p) as kws pos) (tE X.K .ow f)) ∧ (isIf (.Call (.Name x p) as kws pos) = false → PT X (.Call (.Name x p) as kws pos) (tT X.K (dT f))) := by
  obtain ⟨⟨ks, kvs⟩, hk, h⟩ := bind_some h
  split at h
  · rename_i n o F ef
    obtain ⟨⟨hgl, hne⟩, h⟩ := ite_some h
    obtain ⟨fs, h1, h⟩ := bind_some h
    obtain ⟨zs, h2, h⟩ := bind_some h
    obtain ⟨⟨hl, hz⟩, h⟩ := ite_some h
    cases h
    obtain ⟨g1, g2, g3⟩ := ok.gl hgl
    obtain ⟨q1, q2⟩ := args_snd hr ok h1
    cases as with
    | nil => exact absurd rfl hne
    | cons e es =>
      have q := e_callK (p := p) (pos := pos) (ok.fks _ _ _ _ _ (findK_mem ef)) ok.room g1 g3 hk hl hz q2 q1 (kw_args hr ok hk h2)
      cases b with
      | false => exact snd_fzV q (fun _ => rfl)
      | true => exact snd_owV q (fun _ => rfl)
  · split at h
    · exact callL_snd hr h ok
    · split at h
      · rename_i hq
        obtain ⟨en, hlam⟩ := hq
        have hh := h
        subst en
        exact key_snd hr hh ok
      split at h
      · rename_i hq
        obtain ⟨en, ex, hc, na, hgl, hgl2⟩ := hq
        obtain ⟨fa, h1, h2⟩ := map_some h
        clear h
        subst en ex
        obtain ⟨p2, rfl⟩ := isLenN_eq hc
        cases h2
        obtain ⟨g1, g2, g3⟩ := ok.gl hgl
        obtain ⟨g1', g2', g3'⟩ := ok.gl hgl2
        exact snd_fzV (e_minLen ok.calm g1 (ok.blt _ (by decide +kernel)) g1' (ok.blt _ (by decide +kernel)) na (cB_snd hr h1 ok)) (fun _ => rfl)
      obtain ⟨⟨en, na, hgl⟩, h'⟩ := ite_some h
      clear h
      subst en
      obtain ⟨m, hm, h⟩ := bind_some h'
      obtain ⟨fa, h1, h⟩ := bind_some h
      obtain ⟨fc, h2, h⟩ := map_some h
      cases h
      obtain ⟨g1, g2, g3⟩ := ok.gl hgl
      unfold bestB at hm
      split at hm
      · rename_i ex
        subst ex
        cases hm
        exact snd_owV (e_minD ok.calm (by have := ok.room.un; omega) g1 (ok.blt _ (by decide +kernel)) na (cB_snd hr h1 ok) (cB_snd hr h2 ok)) (fun _ => rfl)
      · obtain ⟨ex, hm⟩ := ite_some hm
        subst ex
        cases hm
        exact snd_owV (e_maxD ok.calm (by have := ok.room.un; omega) g1 (ok.blt _ (by decide +kernel)) na (cB_snd hr h1 ok) (cB_snd hr h2 ok)) (fun _ => rfl)
    · cases h
def isTup : Expr → Bool
  | .Tuple .. => true
  | _ => false
def callOf : Expr → Option (Str × List Expr)
  | .Call (.Name x _) as [] _ => some (x, as)
  | _ => none
theorem callOf_eq {e : Expr} {x : Str} {as : List Expr} (h : callOf e = some (x, as)) : ∃ p q, e = .Call (.Name x p) as [] q := by
  unfold callOf at h
  split at h
  · cases h; exact ⟨_, _, rfl⟩
  · cases h
def enumOf : Expr → Option (Expr × Nat)
  | .Call (.Name x _) [a] [⟨some n, .Constant (.int (.ofNat k0)) _ _, _⟩] _ => if x = "enumerate" ∧ n = "start" ∧ k0 < 1000000 then some (a, k0) else none
  | _ => none
theorem enumOf_eq {e a : Expr} {k0 : Nat} (h : enumOf e = some (a, k0)) : k0 < 1000000 ∧ ∃ p pos ck cp kp, e = .Call (.Name "enumerate" p) [a] [⟨some "start", .Constant (.int (k0 : Nat)) ck cp, kp⟩] pos := by
  unfold enumOf at h
  split at h
  · obtain ⟨⟨e1, e2, e3⟩, h'⟩ := ite_some h
    clear h
    subst e1 e2
    cases h'
    exact ⟨e3, _, _, _, _, _, rfl⟩
  · cases h
def cRgs (r : Rec) (Γ : Ctx) (as : List Expr) : Option (Env → Option (List D)) := match as with
  | [a, b, c] => if isStar a = false ∧ isStar b = false ∧ isStar c = false then (cB r Γ a).bind fun fa => (cB r Γ b).bind fun fb => (cB r Γ c).map fun fc => dRg3 fa fb fc else none
  | as => cRg r Γ as
def cIt (r : Rec) (Γ : Ctx) (bw : Bool) (tg e : Expr) : Option (Env → Option (List D)) :=
  match (if bw then dicOf Γ e else none) with
  | some i => some (dItemsN i)
  | none => match enumOf e with
  | some (a, k0) => if glB Γ.sc "enumerate" = true ∧ isTup tg = true ∧ isStar a = false then ((if bw then cB r Γ a else cF r Γ a)).map (dEnumF k0) else none
  | none => match callOf e with
  | some (x, as) => if x = "range" then (if glB Γ.sc "range" = true then cRgs r Γ as else none)
    else if x = "enumerate" then (match as with
      | [a] => if glB Γ.sc "enumerate" = true ∧ isTup tg = true ∧ isStar a = false then ((if bw then cB r Γ a else cF r Γ a)).map dEnum else none
      | _ => none)
    else if x = "zip" then (match as with
      | [a, c] => if glB Γ.sc "zip" = true ∧ isTup tg = true ∧ isStar a = false ∧ isStar c = false then (if bw then cB r Γ a else cF r Γ a).bind fun fa => (if bw then cB r Γ c else cF r Γ c).map fun fc => dZip fa fc else none
      | [a, c, d] => if glB Γ.sc "zip" = true ∧ isTup tg = true ∧ isStar a = false ∧ isStar c = false ∧ isStar d = false then (if bw then cB r Γ a else cF r Γ a).bind fun fa => (if bw then cB r Γ c else cF r Γ c).bind fun fc => (if bw then cB r Γ d else cF r Γ d).map fun fd => dZip3 fa fc fd else none
      | _ => none)
    else (if bw then cB r Γ e else cF r Γ e).map dItems
  | none => (if bw then cB r Γ e else cF r Γ e).map dItems
def mdOf (bw : Bool) : Md := if bw then .bw else .fz
theorem it_snd {bw : Bool} {tg e : Expr} {it : Env → Option (List D)} (hr : Snd k r) (h : cIt r Γ bw tg e = some it) (ok : XOk k Γ X) : PI X tg e (tI (isTup tg) X.K (mdOf bw) it) := by
  have gen : ∀ {e : Expr} {it : Env → Option (List D)}, ((if bw then cB r Γ e else cF r Γ e).map dItems) = some it → PI X tg e (tI (isTup tg) X.K (mdOf bw) it) := fun {e it} h => by
    obtain ⟨f, h1, h2⟩ := map_some h
    cases h2
    cases bw with
    | true => exact i_seqB (cB_snd hr h1 ok)
    | false => exact i_seq (cF_snd hr h1 ok).1
  unfold cIt at h
  split at h
  · rename_i i ed
    cases h
    cases bw with
    | true =>
      obtain ⟨x, px, rfl, hn⟩ := dicOf_ok ed ok
      exact i_n hn
    | false => cases ed
  split at h
  · rename_i a k0 ee
    obtain ⟨hk0, p1, p2, ck, cp, kp, rfl⟩ := enumOf_eq ee
    obtain ⟨⟨gr, ht, hs⟩, h⟩ := ite_some h
    obtain ⟨g1, _, _⟩ := ok.gl gr
    obtain ⟨fa, h1, h2⟩ := map_some h
    cases h2
    cases tg with
    | Tuple elts kk tpos =>
      cases bw with
      | true => exact i_enumFB hk0 g1 (ok.blt _ (by decide +kernel)) hs (cB_snd hr h1 ok)
      | false => exact i_enumF hk0 g1 (ok.blt _ (by decide +kernel)) hs (cF_snd hr h1 ok).1
    | _ => cases ht
  split at h
  · rename_i x as ec
    obtain ⟨p1, p2, rfl⟩ := callOf_eq ec
    split at h
    · rename_i ex
      subst ex
      obtain ⟨gr, h⟩ := ite_some h
      obtain ⟨g1, _, _⟩ := ok.gl gr
      unfold cRgs at h
      split at h
      · obtain ⟨⟨ha, hb, hc⟩, h⟩ := ite_some h
        obtain ⟨fa, h1, h⟩ := bind_some h
        obtain ⟨fb, h2, h⟩ := bind_some h
        obtain ⟨fc, h3, h4⟩ := map_some h
        cases h4
        exact i_rg3 g1 (ok.blt _ (by decide +kernel)) ha hb hc (cB_snd hr h1 ok) (cB_snd hr h2 ok) (cB_snd hr h3 ok)
      unfold cRg at h
      split at h
      · obtain ⟨hs, h⟩ := ite_some h
        obtain ⟨fa, h1, h2⟩ := map_some h
        cases h2
        exact i_rg1 g1 (ok.blt _ (by decide +kernel)) hs (cB_snd hr h1 ok)
      · obtain ⟨hs, h⟩ := ite_some h
        obtain ⟨fa, h1, h⟩ := bind_some h
        obtain ⟨fc, h2, h3⟩ := map_some h
        cases h3
        exact i_rg2 g1 (ok.blt _ (by decide +kernel)) hs.1 hs.2 (cB_snd hr h1 ok) (cB_snd hr h2 ok)
      · cases h
    · split at h
      · rename_i ex
        subst ex
        split at h
        · obtain ⟨⟨gr, ht, hs⟩, h⟩ := ite_some h
          obtain ⟨g1, _, _⟩ := ok.gl gr
          obtain ⟨fa, h1, h2⟩ := map_some h
          cases h2
          cases tg with
          | Tuple elts kk tpos =>
            cases bw with
            | true => exact i_enumB g1 (ok.blt _ (by decide +kernel)) hs (cB_snd hr h1 ok)
            | false => exact i_enum g1 (ok.blt _ (by decide +kernel)) hs (cF_snd hr h1 ok).1
          | _ => cases ht
        · cases h
      · split at h
        · rename_i ex
          subst ex
          split at h
          · obtain ⟨⟨gr, ht, hs, hs2⟩, h⟩ := ite_some h
            obtain ⟨g1, _, _⟩ := ok.gl gr
            obtain ⟨fa, h1, h⟩ := bind_some h
            obtain ⟨fc, h2, h3⟩ := map_some h
            cases h3
            cases tg with
            | Tuple elts kk tpos =>
              cases bw with
              | true => exact i_zipB g1 (ok.blt _ (by decide +kernel)) hs hs2 (cB_snd hr h1 ok) (cB_snd hr h2 ok)
              | false => exact i_zip g1 (ok.blt _ (by decide +kernel)) hs hs2 (cF_snd hr h1 ok).1 (cF_snd hr h2 ok).1
            | _ => cases ht
          · obtain ⟨⟨gr, ht, hs, hs2, hs3⟩, h⟩ := ite_some h
            obtain ⟨g1, _, _⟩ := ok.gl gr
            obtain ⟨fa, h1, h⟩ := bind_some h
            obtain ⟨fc, h2, h⟩ := bind_some h
            obtain ⟨fd, h3, h4⟩ := map_some h
            cases h4
            cases tg with
            | Tuple elts kk tpos =>
              cases bw with
              | true => exact i_zip3B g1 (ok.blt _ (by decide +kernel)) hs hs2 hs3 (cB_snd hr h1 ok) (cB_snd hr h2 ok) (cB_snd hr h3 ok)
              | false => exact i_zip3 g1 (ok.blt _ (by decide +kernel)) hs hs2 hs3 (cF_snd hr h1 ok).1 (cF_snd hr h2 ok).1 (cF_snd hr h3 ok).1
            | _ => cases ht
          · cases h
        · exact gen h
  · exact gen h
def cSlot (Γ : Ctx) (x : Str) : Option Nat := if locB Γ.sc x = true ∧ fnB Γ x = true then slotOf Γ.N x else none
theorem slot_snd {x : Str} {i : Nat} (h : cSlot Γ x = some i) (ok : XOk k Γ X) : X.N[i]? = some x ∧ Loc X.env.scope x ∧ (X.fn x = true ∨ X.env.scope.names.lookup x = some .local) := by
  obtain ⟨⟨h1, h2⟩, h3⟩ := ite_some h
  exact ⟨by rw [ok.N]; exact slotOf_get h3, by rw [ok.sc]; exact locB_eq h1, ok.fn x h2⟩
def cTgs (c : Expr → Option (List Nat × (D → Env → Option Env))) : List Expr → Option (List Nat × (List D → Env → Option Env))
  | [] => some ([], bNil)
  | e :: es => if isStar e = false then (c e).bind fun p => (cTgs c es).map fun q => (p.1 ++ q.1, bCons p.2 q.2) else none
def cTg (Γ : Ctx) : Nat → Expr → Option (List Nat × (D → Env → Option Env))
  | 0, _ => none
  | n + 1, e => match e with
    | .Name x _ => (cSlot Γ x).map fun i => ([i], bName i)
    | .Tuple es _ _ => (cTgs (cTg Γ n) es).map fun p => (p.1, bTup p.2)
    | _ => none
theorem tgs_len {c : Expr → Option (List Nat × (D → Env → Option Env))} : ∀ {es : List Expr} {ts : List Nat} {bs : List D → Env → Option Env}, cTgs c es = some (ts, bs) → ∀ ds ρ ρ', bs ds ρ = some ρ' → ds.length = es.length
  | [], _, _, h => by cases h; exact bs_len_nil
  | e :: es, _, _, h => by
    obtain ⟨_, h⟩ := ite_some h
    obtain ⟨⟨t1, b1⟩, h1, h⟩ := bind_some h
    obtain ⟨⟨t2, b2⟩, h2, h⟩ := map_some h
    cases h
    exact bs_len_cons (tgs_len h2)
theorem tgs_snd (ok : XOk k Γ X) {c : Expr → Option (List Nat × (D → Env → Option Env))} (hc : ∀ e ts bb, c e = some (ts, bb) → PG X e (tGo (isTup e) X.K ts bb)) : ∀ {es : List Expr} {ts : List Nat} {bs : List D → Env → Option Env}, cTgs c es = some (ts, bs) → PGs X es (tGos X.K ts bs) ∧ es.all (fun e => !isStar e) = true
  | [], _, _, h => by cases h; exact ⟨gs_nil, rfl⟩
  | e :: es, _, _, h => by
    obtain ⟨hs, h⟩ := ite_some h
    obtain ⟨⟨t1, b1⟩, h1, h⟩ := bind_some h
    obtain ⟨⟨t2, b2⟩, h2, h⟩ := map_some h
    cases h
    obtain ⟨q1, q2⟩ := tgs_snd ok hc h2
    exact ⟨gs_cons hs (hc _ _ _ h1) q1, by simp only [List.all_cons, hs, q2]; rfl⟩
theorem tg_snd (ok : XOk k Γ X) : ∀ (n : Nat) {e : Expr} {ts : List Nat} {bb : D → Env → Option Env}, cTg Γ n e = some (ts, bb) → PG X e (tGo (isTup e) X.K ts bb)
  | 0, _, _, _, h => by cases h
  | n + 1, e, ts, bb, h => by
    cases e with
    | Name x p =>
      obtain ⟨i, h1, h2⟩ := map_some h
      cases h2
      obtain ⟨q1, q2, q3⟩ := slot_snd h1 ok
      exact g_name ok.nd q1 q2 q3
    | Tuple es kk p =>
      obtain ⟨⟨t1, b1⟩, h1, h2⟩ := map_some h
      cases h2
      obtain ⟨q1, q2⟩ := tgs_snd ok (fun e ts bb h => tg_snd ok n h) h1
      exact g_tup ok.calm q2 (tgs_len h1) q1
    | _ => cases h
end
end PF
namespace SC
open PySem PySem.Spec PyProof.Rows L2 PpSet
section
variable {P : Program} {w : World} {A : Around} {R : Result → Shared → Prop} {z : Shared} {E : Expr} {dp : Nat} {it acc : Value} {env : PySem.Env} {tg : Expr} {ifs : List Expr} {ip : Pos} {bd : Sem Unit}
abbrev tests (ifs : List Expr) (env : PySem.Env) : Sem Bool := forIn ifs true fun c r => if r = true then (isTrue c env (eval c env)) >>= fun ok => pure (ForInStep.yield ok) else pure (ForInStep.yield r)
def turnC (ip : Pos) (tg : Expr) (ifs : List Expr) (E : Expr) (dp : Nat) (it acc : Value) (env : PySem.Env) (bd : Sem Unit) : Sem Fin :=
  standAt ip >>= fun _ => pyNext it >>= fun r => match r with
    | none => pure (.done .next)
    | some v => letOwnedTupleGo tg it v >>= fun _ => assign tg env v >>= fun _ => tests ifs env >>= fun ok =>
      if ok = true then bd >>= fun _ => again (.compLoop E dp it acc env) else again (.compLoop E dp it acc env)
abbrev Er (P : Program) (w : World) (A : Around) (R : Result → Shared → Prop) (env : PySem.Env) : Value → Shared → Prop := notedBy (model P w) A env fun x q => R (.error x) q
theorem loopC (hE : compTurn E dp it acc env = turnC ip tg ifs E dp it acc env bd) (hq : (Code.compLoop E dp it acc env).quiet = true) (hA : A.under (Code.compLoop E dp it acc env) = A)
    (hD : (model P w).den (Code.compLoop E dp it acc env) = (compTurn E dp it acc env).onRaise fun x => do noteFrame x env; theTreesLotGoes x) (J : Nat → Shared → Prop)
    (turn : ∀ n q, J n q → wpAny (model P w) A (pyNext it) (fun r q1 => match r with
      | none => R (.ok .next) q1
      | some v => wpAny (model P w) A (letOwnedTupleGo tg it v) (fun _ q2 => wpAny (model P w) A (assign tg env v) (fun _ q3 => wpAny (model P w) A (tests ifs env) (fun ok q4 =>
          if ok = true then wpAny (model P w) A bd (fun _ q5 => ∃ m, m < n ∧ J m q5) (Er P w A R env) q4 else ∃ m, m < n ∧ J m q4) (Er P w A R env) q3) (Er P w A R env) q2) (Er P w A R env) q1) (Er P w A R env) q)
    (n : Nat) (h : J n z) : codeAny (model P w) A (.compLoop E dp it acc env) R z := by
  refine codeAny_loop hq J (fun n q hJ => ?_) n h
  rw [hA, hD, hE]
  refine wpAny_noted ?_
  unfold turnC
  refine wpAny_bind (wpAny_standAt (wpAny_bind (thn (turn n q hJ) fun r q1 h1 => ?_)))
  cases r with
  | none => exact wpAny_pure h1
  | some v =>
    refine wpAny_bind (thn h1 fun _ q2 h2 => wpAny_bind (thn h2 fun _ q3 h3 => wpAny_bind (thn h3 fun ok q4 h4 => ?_)))
    cases ok with
    | false => exact wpAny_pure ⟨rfl, h4⟩
    | true => exact wpAny_bind (thn h4 fun _ q5 h5 => wpAny_pure ⟨rfl, h5⟩)
theorem startC {i0 : Expr} (hg : (clausesOf E)[dp]? = some ⟨tg, i0, ifs, 0⟩) (hd : (model P w).den (Code.compStart E dp it acc env) = (compStart E dp it acc env).onRaise fun x => do noteFrame x env; standAt theWindowsPlace) (hA : A.under (Code.compStart E dp it acc env) = A)
    (hq : (Code.compLoop E dp it acc env).quiet = true) (hqs : ∀ it', (Code.compLoop E dp it' acc env).quiet = true)
    (a : codeAny (model P w) A (.compLoop E dp it acc env) R z) (b : wpAny (model P w) A (pyIter it) (fun it' q => codeAny (model P w) A (.compLoop E dp it' acc env) R q) (Er P w A R env) z) :
    codeAny (model P w) A (.compStart E dp it acc env) R z := by
  refine codeAny_of_tree ?_
  rw [hA, hd]
  refine wpAny_notedAt ?_
  unfold compStart
  rw [hg]
  show wpAny _ _ (ask >>= _) _ _ z
  refine wpAny_bind (wpAny_askSetting (wpAny_ite ?_))
  split
  · exact wpAny_pure (And.intro hq a)
  · refine wpAny_bind (wpAny_rule ?_)
    show wpAny _ _ (standAt i0.pos >>= _) _ _ z
    exact wpAny_bind (wpAny_standAt (wpAny_bind (thn b fun it' q h => wpAny_pure (And.intro (hqs it') h))))
end
theorem thnX {Y : Cx} {α : Type} {t : Sem α} {Q Q' : α → Shared → Prop} {M : Model} {A : Around} {E : Value → Shared → Prop} {z : Shared} (hx : Y.xe = fun _ _ => False) (h : wpAny M A t Q Y.xe z) (hQ : ∀ a q, Q a q → Q' a q) : wpAny M A t Q' E z := thnF (by rw [← hx]; exact h) hQ
def Kno (σ τ : L2.St) : Prop := σ.length = τ.length ∧ ∀ (j : Nat) v, σ[j]? = some (some v) → τ[j]? = some (some v)
theorem Kno.wiped {σ τ : L2.St} {vs : List Nat} (h : wipe τ vs = σ) : Kno σ τ := ⟨by rw [← h, wipe_length], fun j v e => by rw [← h] at e; exact (wipe_some e).1⟩
def Steps (J : It) (g : TG) (tt : TT) (vs : List Nat) (σ0 : L2.St) (Bd : L2.St → Hp → (Hp → Prop) → Prop) (Fn : Hp → Prop) (W : Nat → Nat → Hp → Prop) : Prop := ∀ i m H, W i m H →
  (J.stop i H ∧ Fn H) ∨ (J.go i H ∧ ∃ Nx : Hp → Prop, (∀ H', Nx H' → ∃ l, l < m ∧ W (i + 1) l H') ∧ ∀ x H', J.yld i H x H' → g x σ0 H' fun σ2 H2 => wipe σ2 vs = σ0 ∧ tt σ2 H2 fun b H3 => if b = true then Bd σ2 H3 Nx else Nx H3)
def Body (Y : Cx) (bd : Sem Unit) (σ0 : L2.St) (vs : List Nat) (Bd : L2.St → Hp → (Hp → Prop) → Prop) : Prop := ∀ (pins : List (Addr × Obj)) (σ2 : L2.St) (H : Hp) (z : Shared) (Nx : Hp → Prop) (Post : Shared → Prop) (E : Value → Shared → Prop), Inv Y pins σ2 H z → wipe σ2 vs = σ0 → Bd σ2 H Nx →
  (∀ τ q H', Inv Y pins τ H' q → Kno σ0 τ → Nx H' → Post q) → wpAny (model Y.prog Y.w) Y.A bd (fun _ q => Post q) E z
structure Rd (P : Program) (w : World) (A : Around) (E : Expr) (dp : Nat) (acc : Value) (env : PySem.Env) (i0 tg : Expr) (ifs : List Expr) (bd : Sem Unit) : Prop where
  turn : ∀ it, compTurn E dp it acc env = turnC i0.pos tg ifs E dp it acc env bd
  den : ∀ it, (model P w).den (Code.compLoop E dp it acc env) = (compTurn E dp it acc env).onRaise fun x => do noteFrame x env; theTreesLotGoes x
  sden : ∀ it, (model P w).den (Code.compStart E dp it acc env) = (compStart E dp it acc env).onRaise fun x => do noteFrame x env; standAt theWindowsPlace
  qui : ∀ it, (Code.compLoop E dp it acc env).quiet = true
  und : ∀ it, A.under (Code.compLoop E dp it acc env) = A
  sund : ∀ it, A.under (Code.compStart E dp it acc env) = A
  cls : (clausesOf E)[dp]? = some ⟨tg, i0, ifs, 0⟩
section
variable {Y : Cx} {E : Expr} {dp : Nat} {it : Addr} {acc : Value} {tg i0 : Expr} {ifs : List Expr} {bd : Sem Unit} {J : It} {fp : List Addr} {tn : Nat → Heap → Prop} {g : TG} {tt : TT} {vs : List Nat} {σ0 : L2.St} {Bd : L2.St → Hp → (Hp → Prop) → Prop} {Fn : Hp → Prop} {W : Nat → Nat → Hp → Prop} {R : Result → Shared → Prop} {z : Shared}
theorem blockC {pins : List (Addr × Obj)} {H0 : Hp} {m0 : Nat} (rd : Rd Y.prog Y.w Y.A E dp acc Y.env i0 tg ifs bd) (hc : Y.calm = true) (hx : Y.xe = fun _ _ => False) (T : Turn Y.prog Y.w Y.K tg J fp it tn) (pg : PG Y tg g) (pt : PTs Y ifs tt)
    (fo : ∀ σ' H' z', Inv Y pins σ' H' z' → (∀ b ∈ fp, H' b = none) → ∀ b ∈ fp, FpOk Y pins H' b) (st : Steps J g tt vs σ0 Bd Fn W) (bo : Body Y bd σ0 vs Bd) (fin : ∀ z' H', Inv Y pins σ0 H' z' → Fn H' → R (.ok .next) z')
    (I0 : Inv Y pins σ0 H0 z) (t0 : tn 0 z.heap) (n0 : ∀ b ∈ fp, H0 b = none) (w0 : W 0 m0 H0) : codeAny (model Y.prog Y.w) Y.A (.compStart E dp (.ref it) acc Y.env) R z := by
  have lp : codeAny (model Y.prog Y.w) Y.A (.compLoop E dp (.ref it) acc Y.env) R z := by
    refine loopC (rd.turn _) (rd.qui _) (rd.und _) (rd.den _) (fun n q => ∃ i H', Inv Y pins σ0 H' q ∧ tn i q.heap ∧ (∀ b ∈ fp, H' b = none) ∧ W i n H') ?_ m0 ⟨0, H0, I0, t0, n0, w0⟩
    rintro n q5 ⟨i, H5, I5, t5, n5, w5⟩
    have f5 := fo _ _ _ I5 n5
    rcases st i n H5 w5 with ⟨sp, qf⟩ | ⟨go, Nx, hN, tk⟩
    · refine thnF (T.done Y rfl rfl rfl hc i pins q5 σ0 H5 _ I5 f5 t5 sp) fun r q6 ⟨hr, I6⟩ => ?_
      rw [hr]
      exact fin q6 H5 I6 qf
    · refine thnF (T.item Y rfl rfl rfl hc i pins q5 σ0 H5 _ I5 f5 t5 go) fun r q6 ⟨u, hr, h6⟩ => ?_
      rw [hr]
      refine thnF h6 fun _ q7 ⟨x, H7, I7, r7, y7, t7, n7⟩ => ?_
      have I8 := I7.pinned (fo _ _ _ I7 n7) (T.obj _ _ t7)
      have back : ∀ τ q H', Inv Y (pins ++ pinsAt fp q7.heap) τ H' q → Kno σ0 τ → Nx H' → ∃ m, m < n ∧ ∃ i H', Inv Y pins σ0 H' q ∧ tn i q.heap ∧ (∀ b ∈ fp, H' b = none) ∧ W i m H' := fun τ q H' I' kn nx => by
        obtain ⟨m, hm, w'⟩ := hN H' nx
        have kp : ∀ b ∈ fp, ∀ o, q7.heap.get? b = some o → q.heap.get? b = some o ∧ H' b = none := fun b hb o e =>
          have y := I'.pin (b, o) (List.mem_append_right _ (List.mem_append_right _ (mem_pinsAt hb e)))
          ⟨y.1, y.2.1⟩
        refine ⟨m, hm, i + 1, H', I'.unpinned.weak kn.1 kn.2, T.keep _ _ _ t7 fun b hb o e => (kp b hb o e).1, fun b hb => ?_, w'⟩
        obtain ⟨o, e, _⟩ := T.obj _ _ t7 b hb
        exact (kp b hb o e).2
      refine thnX hx (pg.run _ q7 σ0 H7 x u _ I8 r7 (tk x H7 y7)) fun _ q8 ⟨σ8, H8, I8, e8, h8⟩ => ?_
      refine thnX hx (pt.run _ q8 σ8 H8 _ I8 h8) fun b q9 ⟨H9, I9, h9⟩ => ?_
      cases b with
      | false => exact back _ _ _ I9 (.wiped e8) h9
      | true => exact bo _ _ _ _ Nx _ _ I9 e8 h9 back
  exact startC rd.cls (rd.sden _) (rd.sund _) (rd.qui _) rd.qui lp (T.self Y.A 0 _ _ _ t0 lp)
def innB (E i1 : Expr) (acc : Value) (env : PySem.Env) : Sem Unit := eval i1 env >>= fun x => standAt i1.pos >>= fun _ => foldedSetIterable i1 env x >>= fun x => holding [x] (pyIter x) >>= fun it1 => runOwn (.compStart E 1 it1 acc env) env >>= fun _ => pure ()
def In2 (wi1 : TI) (g1 : TG) (tt1 : TT) (vs1 : List Nat) (Bd1 : L2.St → Hp → (Hp → Prop) → Prop) : L2.St → Hp → (Hp → Prop) → Prop := fun σ2 H3 Nx => wi1 σ2 H3 fun J1 H4 => ∃ W1 : Nat → Nat → Hp → Prop, (∃ m, W1 0 m H4) ∧ Steps J1 g1 tt1 vs1 (wipe σ2 vs1) Bd1 Nx W1
theorem inner {i1 tg1 : Expr} {ifs1 : List Expr} {bd1 : Sem Unit} {wi1 : TI} {g1 : TG} {tt1 : TT} {vs1 : List Nat} {Bd1 : L2.St → Hp → (Hp → Prop) → Prop} (rd : Rd Y.prog Y.w Y.A E 1 acc Y.env i1 tg1 ifs1 bd1) (hc : Y.calm = true) (hx : Y.xe = fun _ _ => False) (hi : PI Y tg1 i1 wi1) (pg : PG Y tg1 g1) (pt : PTs Y ifs1 tt1)
    (hs : ∀ x, foldedSetIterable i1 Y.env x = pure x) (sub : ∀ i ∈ vs1, i ∈ vs) (bo : ∀ σ, Body Y bd1 (wipe σ vs1) vs1 Bd1) : Body Y (innB E i1 acc Y.env) σ0 vs (In2 wi1 g1 tt1 vs1 Bd1) := by
  intro pins σ2 H z Nx Post Ex I e2 h back
  have kn : Kno σ0 (wipe σ2 vs1) := ⟨by rw [← e2, wipe_length, wipe_length], fun j v e => by
    rw [← e2] at e
    obtain ⟨k1, k2⟩ := wipe_some e
    rw [wipe_out fun q => k2 (sub j q)]
    exact k1⟩
  unfold innB
  refine wpAny_bind (thnX hx (hi.run pins z σ2 H _ I h) fun xv q1 h1 => ?_)
  refine wpAny_bind (wpAny_standAt (wpAny_bind (wpAny_of_eq (hs xv) (wpAny_bind (wpAny_holding (thnX hx h1 fun itv q2 h2 => ?_))))))
  obtain ⟨it1, fp1, tn1, J1, H2, rfl, I2, T1, t1, f1, W1, ⟨m1, w1⟩, st1⟩ := h2
  refine wpAny_bind (wpAny_runOwn ?_)
  rw [Around.mark_none]
  refine codeAny_mono (blockC (R := fun r q => match r with | .ok _ => Post q | .error _ => False) rd hc hx T1 pg pt (fun σ' H' z' _ hn b hb => ⟨hn b hb, (f1 b hb).2⟩) st1 (bo σ2) (fun q H' I' nx => back _ q H' I' kn nx) (I2.weak (wipe_length _ _) fun j v e => (wipe_some e).1) t1 (fun b hb => (f1 b hb).1) w1) fun r q hr => ?_
  cases r with
  | ok f => first | exact wpAny_pure hr | exact wpAny_bind (wpAny_pure (wpAny_pure hr))
  | error e => exact hr.elim
end
def tC (O : Addr → HO) (Bd : Addr → L2.St → Hp → (Hp → Prop) → Prop) (wi : TI) (g : TG) (tt : TT) (vs : List Nat) : TE := fun σ H Q => wi σ H fun J H1 => ∀ D, H1 D = none → ∃ W : Nat → Nat → Hp → Prop, (∃ m, W 0 m (upd H1 D (O D))) ∧ Steps J g tt vs (wipe σ vs) (Bd D) (fun H' => Q (.ref D) H') W
section
variable {X : Cx}
theorem coreC {E : Expr} {mk : Sem Value} {ob : Obj} {O : Addr → HO} {Bd : Addr → L2.St → Hp → (Hp → Prop) → Prop} {bdC : Value → PySem.Env → Sem Unit} {pins : List (Addr × Obj)} {z : Shared} {σ : L2.St} {H : Hp} {Q : VK} {tg iter : Expr} {ifs : List Expr} {gs : List Comprehension} {scope : Scope} {own : List (PySem.Str × Nat)} {pos : Pos} {wi : TI} {g : TG} {tt : TT} {use : Option (Value → Sem Unit)} {Qf : Value → Shared → Prop}
    (hcl : clausesOf E = ⟨tg, iter, ifs, 0⟩ :: gs) (hmk : ∀ (q : Shared) (Q : Value → Shared → Prop), Q (.ref q.heap.objs.size) { q with heap := q.heap.push ob } → wpAny (model X.prog X.w) X.A mk Q X.xe q) (hob : ob.isFreed = false) (hnew : ∀ H h a, h.get? a = some ob → a ≠ sysModules → ObjOk X.prog X.w H h a (O a))
    (hc : X.calm = true) (hN : X.N.Nodup) (I : Inv X pins σ H z) (hi : PI X tg iter wi) (ok : BlkOk X.N X.env.scope scope own)
    (rd : ∀ acc env, Rd X.prog X.w X.A E 0 acc env iter tg ifs (bdC acc env))
    (hg : ∀ (q : Shared) (H : Hp) (C : Addr) (cl : List (PySem.Str × Addr)) (fp : List Addr), PG (X.blk q H scope (compEnvC scope cl C X.env) fp) tg g) (ht : ∀ (q : Shared) (H : Hp) (C : Addr) (cl : List (PySem.Str × Addr)) (fp : List Addr), PTs (X.blk q H scope (compEnvC scope cl C X.env) fp) ifs tt)
    (hb : ∀ (q : Shared) (H : Hp) (C : Addr) (cl : List (PySem.Str × Addr)) (fp : List Addr) (D : Addr) (σ0 : L2.St), Body (X.blk q H scope (compEnvC scope cl C X.env) fp) (bdC (.ref D) (compEnvC scope cl C X.env)) σ0 (own.map (·.2)) (Bd D))
    (hs : ∀ x, foldedSetIterable iter X.env x = pure x) (h : tC O Bd wi g tt (own.map (·.2)) σ H Q)
    (out : ∀ D C q m H', Inv X pins σ H' q → Q (.ref D) H' → q.heap.Ns C m → FpOk X pins H' C → compPost (model X.prog X.w) X.A X.xe use Qf (.ref D) C (.ok .next) q) :
    wpAny (model X.prog X.w) X.A (comprehension E scope X.env pos mk false (eval iter X.env) use) Qf X.xe z := by
  have cells : ∀ y ∈ scope.names, y.2 = .free → ∃ c, X.env.cells.lookup y.1 = some c := fun y hy e => (ok.free y hy e).elim (fun k => I.ok.has _ (.inl k)) fun k => I.ok.has _ (.inr k)
  refine wpAny_comprehension_free (use := use) hcl hs (closure_ok cells) ok.kind (fun y hy e => (ok.uniq y hy).trans (congrArg some e)) (thn (hi.run pins z σ H _ I h) fun xv q1 h1 => thn h1 fun itv q2 h2 => ?_)
  obtain ⟨it, fp, tn, J, H2, rfl, I2, T, t2, f2, h2⟩ := h2
  refine hmk q2 _ (newEnv_comp ?_)
  have nD : H2 q2.heap.objs.size = none := I2.hok.fresh (Nat.le_refl _)
  obtain ⟨W, ⟨m0, w0⟩, st⟩ := h2 _ nD
  have big : q2.heap.objs.size ≠ sysModules := Ne.symm (Nat.ne_of_lt I2.big)
  have I3 : Inv X pins σ (upd H2 q2.heap.objs.size (O q2.heap.objs.size)) { q2 with heap := q2.heap.push ob } := I2.laid (t' := q2.toks) (fun b o e => Heap.get?_push_of_some _ e) (Nat.le_refl _) (hnew _ _ _ (Heap.get?_push_size _ hob) big)
  have t3 : tn 0 (q2.heap.push ob) := T.keep _ _ _ t2 fun b _ o e => Heap.get?_push_of_some _ e
  have old : ∀ b ∈ fp, b < q2.heap.objs.size := fun b hb => by
    obtain ⟨o, e, _⟩ := T.obj _ _ t2 b hb
    exact Heap.lt_size e
  have f3 : ∀ b ∈ fp, FpOk X pins (upd H2 q2.heap.objs.size (O q2.heap.objs.size)) b ∧ b < ({ q2 with heap := q2.heap.push ob } : Shared).heap.objs.size := fun b hb => by
    have lt := old b hb
    refine ⟨⟨?_, (f2 b hb).2⟩, ?_⟩
    · rw [upd_ne (Nat.ne_of_lt lt)]; exact (f2 b hb).1
    · show b < (q2.heap.push ob).objs.size
      rw [Heap.size_push]
      exact Nat.lt_succ_of_lt lt
  have I4 := block_start I3 ok hN f3
  refine blockC (Y := X.blk { q2 with heap := q2.heap.push ob } (upd H2 q2.heap.objs.size (O q2.heap.objs.size)) scope (compEnvC scope (cellsFrom ((q2.heap.push ob).objs.size + 1) scope.names (cloFrom X.env.cells scope.names [])) (q2.heap.push ob).objs.size X.env) fp) (pins := [])
    (rd _ _) hc rfl T (hg _ _ _ _ _) (ht _ _ _ _ _) (fun σ' H' z' I' hn b hb => ⟨hn b hb, (I'.ok.exf b hb).1, I'.ok.exfs b hb, .inl hb, fun x c e => (I'.ok.exf b hb).2 x c e, fun p hp => absurd (show p ∈ ([] : List (Addr × Obj)) ++ [] from hp) (by simp)⟩) st (hb _ _ _ _ _ _ _) (fun q6 H6 I6 qq => ?_) I4
    (T.keep _ _ _ t3 fun b _ o e => pushCells_keeps _ _ _ _ (Heap.get?_push_of_some _ e)) (fun b hb => (f3 b hb).1.1) w0
  have back : Inv X pins σ H6 q6 := I3.call' (ch := fp) I6.os I6.base I6.hok I6.bare fun b hb => ⟨(f3 b hb).1.2.2.2.1, (f3 b hb).1.2.1, (f3 b hb).1.2.2.2.2.1, (f3 b hb).1.2.2.2.2.2⟩
  obtain ⟨m, hn, _⟩ := I6.loc
  exact out _ _ q6 m H6 back qq hn (I3.fpOk (Nat.le_refl _) I6.free)
end
structure Fam (X : Cx) (O : Addr → HO) (Ad : Addr → V → Hp → (Hp → Prop) → Prop) : Prop where
  new : ∀ (H : Hp) (h : Heap) (a : Addr), h.get? a = some (ST.newS X.w) → ObjOk X.prog X.w H h a (O a)
  add : ∀ (Y : Cx), Y.prog = X.prog → Y.w = X.w → Y.K = X.K → Y.A = X.A → ∀ (pins : List (Addr × Obj)) (σ : L2.St) (H : Hp) (z : Shared) (E : Value → Shared → Prop) (D : Addr) (y : V) (u : Value) (Nx : Hp → Prop) (Q : Value → Shared → Prop), Inv Y pins σ H z → RelV y u → Ad D y H Nx →
    (∀ z' H', Inv Y pins σ H' z' → Nx H' → Q .none z') → wpAny (model Y.prog Y.w) Y.A (call (.builtin "set.add") [.ref D, u]) Q E z
def addB (elt : Expr) (acc : Value) (env : PySem.Env) : Sem Unit := eval elt env >>= fun v => standAt elt.pos >>= fun _ => call (.builtin "set.add") [acc, v] >>= fun _ => pure ()
section
variable {X : Cx} {O : Addr → HO} {Ad : Addr → V → Hp → (Hp → Prop) → Prop} {elt tg iter tg1 iter1 : Expr} {ifs ifs1 : List Expr} {scope : Scope} {own : List (PySem.Str × Nat)} {vs1 : List Nat} {pos : Pos} {wi wi1 : TI} {g g1 : TG} {tt tt1 : TT} {te : TE}
theorem add_body (F : Fam X O Ad) (D : Addr) (σ0 : L2.St) (vs : List Nat) {q : Shared} {H : Hp} {C : Addr} {cl : List (PySem.Str × Addr)} {fp : List Addr} (he : PE (X.blk q H scope (compEnvC scope cl C X.env) fp) elt te) :
    Body (X.blk q H scope (compEnvC scope cl C X.env) fp) (addB elt (.ref D) (compEnvC scope cl C X.env)) σ0 vs (fun σ2 H3 Nx => te σ2 H3 fun y H4 => Ad D y H4 Nx) := by
  intro pins σ2 Hz z Nx Post Ex I e2 h back
  unfold addB
  refine wpAny_bind (thnX (Y := X.blk q H scope (compEnvC scope cl C X.env) fp) rfl (he.run pins z σ2 Hz _ I h) fun u q1 ⟨y, H1, I1, r1, ad⟩ => ?_)
  refine wpAny_bind (wpAny_standAt (wpAny_bind (F.add (X.blk q H scope (compEnvC scope cl C X.env) fp) rfl rfl rfl rfl _ _ _ _ _ _ _ _ Nx _ I1 r1 ad fun q2 H2 I2 nx => wpAny_pure ?_)))
  exact back σ2 q2 H2 I2 (.wiped e2) nx
theorem rd_s1 {P : Program} {w : World} {A : Around} (acc : Value) (env : PySem.Env) : Rd P w A (.SetComp elt [⟨tg, iter, ifs, 0⟩] scope pos) 0 acc env iter tg ifs (addB elt acc env) := ⟨fun _ => rfl, fun _ => rfl, fun _ => rfl, fun _ => rfl, fun _ => rfl, fun _ => rfl, rfl⟩
theorem rd_s2 {P : Program} {w : World} {A : Around} (acc : Value) (env : PySem.Env) : Rd P w A (.SetComp elt [⟨tg, iter, ifs, 0⟩, ⟨tg1, iter1, ifs1, 0⟩] scope pos) 0 acc env iter tg ifs (innB (.SetComp elt [⟨tg, iter, ifs, 0⟩, ⟨tg1, iter1, ifs1, 0⟩] scope pos) iter1 acc env) := ⟨fun _ => by simp only [turnC, innB, bind_assoc, pure_bind]; rfl, fun _ => rfl, fun _ => rfl, fun _ => rfl, fun _ => rfl, fun _ => rfl, rfl⟩
theorem rd_s3 {P : Program} {w : World} {A : Around} (acc : Value) (env : PySem.Env) : Rd P w A (.SetComp elt [⟨tg, iter, ifs, 0⟩, ⟨tg1, iter1, ifs1, 0⟩] scope pos) 1 acc env iter1 tg1 ifs1 (addB elt acc env) := ⟨fun _ => rfl, fun _ => rfl, fun _ => rfl, fun _ => rfl, fun _ => rfl, fun _ => rfl, rfl⟩
def tScG (O : Addr → HO) (Ad : Addr → V → Hp → (Hp → Prop) → Prop) (wi : TI) (g : TG) (tt : TT) (te : TE) (vs : List Nat) : TE := tC O (fun D σ2 H3 Nx => te σ2 H3 fun y H4 => Ad D y H4 Nx) wi g tt vs
theorem pe (F : Fam X O Ad) (hc : X.calm = true) (hN : X.N.Nodup) (hi : PI X tg iter wi) (ok : BlkOk X.N X.env.scope scope own)
    (hg : ∀ (q : Shared) (H : Hp) (C : Addr) (cl : List (PySem.Str × Addr)) (fp : List Addr), PG (X.blk q H scope (compEnvC scope cl C X.env) fp) tg g) (ht : ∀ (q : Shared) (H : Hp) (C : Addr) (cl : List (PySem.Str × Addr)) (fp : List Addr), PTs (X.blk q H scope (compEnvC scope cl C X.env) fp) ifs tt)
    (he : ∀ (q : Shared) (H : Hp) (C : Addr) (cl : List (PySem.Str × Addr)) (fp : List Addr), PE (X.blk q H scope (compEnvC scope cl C X.env) fp) elt te) (hs : ∀ x, foldedSetIterable iter X.env x = pure x) :
    PE X (.SetComp elt [⟨tg, iter, ifs, 0⟩] scope pos) (tScG O Ad wi g tt te (own.map (·.2))) := by
  refine ⟨fun pins z σ H Q I h => ?_⟩
  rw [eval_SetComp]
  refine coreC (ob := ST.newS X.w) rfl (fun q Q h => newSet_ok h) rfl (fun H h a e _ => F.new H h a e) hc hN I hi ok rd_s1 hg ht (fun q H C cl fp D σ0 => add_body F D σ0 _ (he q H C cl fp)) hs h fun D C q m H' I' y hn f => ⟨m, hn, fun h2 sb => ?_⟩
  obtain ⟨f0, f1, f2, f3, f4, f5⟩ := f
  exact ⟨.ref D, H', I'.turned (t' := q.toks) (fun b o hb e => (sb.2 b hb).trans e) f0 f1 f3 f4 f5, rfl, y⟩
def tSc2 (O : Addr → HO) (Ad : Addr → V → Hp → (Hp → Prop) → Prop) (wi : TI) (g : TG) (tt : TT) (wi1 : TI) (g1 : TG) (tt1 : TT) (te : TE) (vs vs1 : List Nat) : TE := tC O (fun D => In2 wi1 g1 tt1 vs1 fun σ2 H3 Nx => te σ2 H3 fun y H4 => Ad D y H4 Nx) wi g tt vs
theorem pe2 (F : Fam X O Ad) (hc : X.calm = true) (hN : X.N.Nodup) (hi : PI X tg iter wi) (ok : BlkOk X.N X.env.scope scope own) (hv : ∀ i ∈ vs1, i ∈ own.map (·.2))
    (hg : ∀ (q : Shared) (H : Hp) (C : Addr) (cl : List (PySem.Str × Addr)) (fp : List Addr), PG (X.blk q H scope (compEnvC scope cl C X.env) fp) tg g) (ht : ∀ (q : Shared) (H : Hp) (C : Addr) (cl : List (PySem.Str × Addr)) (fp : List Addr), PTs (X.blk q H scope (compEnvC scope cl C X.env) fp) ifs tt)
    (hi1 : ∀ (q : Shared) (H : Hp) (C : Addr) (cl : List (PySem.Str × Addr)) (fp : List Addr), PI (X.blk q H scope (compEnvC scope cl C X.env) fp) tg1 iter1 wi1)
    (hg1 : ∀ (q : Shared) (H : Hp) (C : Addr) (cl : List (PySem.Str × Addr)) (fp : List Addr), PG (X.blk q H scope (compEnvC scope cl C X.env) fp) tg1 g1) (ht1 : ∀ (q : Shared) (H : Hp) (C : Addr) (cl : List (PySem.Str × Addr)) (fp : List Addr), PTs (X.blk q H scope (compEnvC scope cl C X.env) fp) ifs1 tt1)
    (he : ∀ (q : Shared) (H : Hp) (C : Addr) (cl : List (PySem.Str × Addr)) (fp : List Addr), PE (X.blk q H scope (compEnvC scope cl C X.env) fp) elt te) (hs : ∀ x, foldedSetIterable iter X.env x = pure x) (hs1 : ∀ env x, foldedSetIterable iter1 env x = pure x) :
    PE X (.SetComp elt [⟨tg, iter, ifs, 0⟩, ⟨tg1, iter1, ifs1, 0⟩] scope pos) (tSc2 O Ad wi g tt wi1 g1 tt1 te (own.map (·.2)) vs1) := by
  refine ⟨fun pins z σ H Q I h => ?_⟩
  rw [eval_SetComp]
  refine coreC (ob := ST.newS X.w) rfl (fun q Q h => newSet_ok h) rfl (fun H h a e _ => F.new H h a e) hc hN I hi ok rd_s2 hg ht (fun q H C cl fp D σ0 => inner (Y := X.blk q H scope (compEnvC scope cl C X.env) fp) (rd_s3 _ _) hc rfl (hi1 q H C cl fp) (hg1 q H C cl fp) (ht1 q H C cl fp) (hs1 _) hv fun σ => add_body F D _ _ (he q H C cl fp)) hs h fun D C q m H' I' y hn f => ⟨m, hn, fun h2 sb => ?_⟩
  obtain ⟨f0, f1, f2, f3, f4, f5⟩ := f
  exact ⟨.ref D, H', I'.turned (t' := q.toks) (fun b o hb e => (sb.2 b hb).trans e) f0 f1 f3 f4 f5, rfl, y⟩
end
section
variable {X : Cx}
def AdT (K : PySem.W.Frag) (P : Program) (w : World) : Addr → V → Hp → (Hp → Prop) → Prop := fun D y H Nx => ∃ (x : Addr) (k : List Int) (L : List (Addr × List Int)), y = .ref x ∧ SqT K H x (k.map V.int) ∧ H D = some (SetTO P w D L) ∧ (∀ p ∈ L, SqT K H p.1 (p.2.map V.int)) ∧ L.length + 1 < 64 ∧
  ∀ L', (k ∈ L.map (·.2) → L' = L) → (k ∉ L.map (·.2) → L'.Perm ((x, k) :: L)) → Nx (upd H D (SetTO P w D L'))
theorem famT (hu : X.A.units + 64 < cLine) : Fam X (fun D => SetTO X.prog X.w D []) (AdT X.K X.prog X.w) where
  new := fun H h a ho => setTO_new (setTR_fresh ho).t0
  add := fun Y e1 e2 e3 e4 pins σ H s E D y u Nx Q I r ad hQ => by
    obtain ⟨x, k, L, rfl, hx, hD, hL, few, q⟩ := ad
    rw [← e1, ← e2] at hD
    rw [← e1, ← e2] at q
    rw [← e3] at hx
    rw [← e4] at hu
    cases r
    have R0 : SetT0 Y.prog Y.w s.heap D L := (I.hok D _ hD).1
    obtain ⟨es, ep, t, R⟩ := R0.full fun p hp => I.isT (by rw [e3]; exact hL p hp)
    have hxT := I.isT hx
    obtain ⟨o, ho, hex, hd⟩ := R.ob
    refine wpAny_call_entry F.slot_set_add ⟨o, ho, hex.1⟩ F.entry_set_add ?_ (F.args_set_add_2 _ _)
    unfold Builtin.«set.add» Builtin.Frozenset.oneOther
    simp only [List.isEmpty_nil, bind_assoc]
    unfold Builtin.Frozenset.addrOf setAdd
    refine wpAny_bind (wpAny_pure ?_)
    try dsimp only
    refine wpAny_bind (wpAny_pure ?_)
    try dsimp only
    refine wpAny_bind ?_
    refine wpAny_holding ?_
    refine wpAny_bind (wpAny_pyHash_tuple (by show Y.A.units + 1 < cLine; omega) hxT ?_)
    refine add_at (s := { s with toks := s.toks + (k.length + 1) }) R hxT (by show Y.A.units + 1 < cLine; omega) few fun b h' L' es' ep' t' sb R' c1 c2 => ?_
    show wpAny _ _ (ret Value.none) _ _ _
    refine wpAny_pure ⟨_, rfl, ?_⟩
    obtain ⟨o', ho', _⟩ := R'.ob
    exact hQ _ _ (I.write (e := D) (t' := s.toks + (k.length + 1)) (by rw [hD]; trivial) (.inl rfl) (fun b u hb hu => (sb.2 b hb).trans hu) ⟨o', ho'⟩ (setTO_new R'.t0)) (q L' c1 c2)
def AdI (w : World) : Addr → V → Hp → (Hp → Prop) → Prop := fun D y H Nx => ∃ (k : Int) (S : Int → Bool) (n : Nat), y = .int k ∧ H D = some (SetO w D S n) ∧ n + 1 < scanBound ∧ Nx (upd H D (SetO w D (fun j => S j || decide (j = k)) (if S k = true then n else n + 1)))
theorem famI : Fam X (fun D => SetO X.w D (fun j => decide (j ∈ ([] : List Int))) 0) (AdI X.w) where
  new := fun H h a ho => setO_new (setR_new_at (ns := []) ho)
  add := fun Y e1 e2 e3 e4 pins σ H z E D y u Nx Q I r ad hQ => by
    obtain ⟨k, S, n, rfl, hD, room, q⟩ := ad
    rw [← e2] at hD q
    obtain ⟨tk, rfl⟩ := r
    have R := setO_get I hD
    refine setR_add R room fun h' sb new => ?_
    have he : ∃ u, h'.get? D = some u := by
      have ⟨o, _, _, _, ho, _⟩ := new
      exact ⟨o, ho⟩
    exact hQ _ _ (I.write (e := D) (t' := z.toks + 1) (by rw [hD]; trivial) (.inl rfl) (fun b u hb hu => (sb.2 b hb).trans hu) he (setO_new new)) q
end
end SC
namespace PF
open PySem PySem.Spec PyProof.Rows L2
def aLenK : D → Option D
  | .list ds => if ds.length < 64 then (ksOf ds).map fun ks => .int ((ddL ks).length : Nat) else none
  | _ => none
def aLenI : D → Option D
  | .list ds => lenInts ds
  | _ => none
theorem kD_ref {K : PySem.W.Frag} {G : Hp} {v : V} {k : List Int} (r : Rp K G v (kD k)) : ∃ a, v = .ref a := by
  unfold kD at r
  cases r with
  | tup e r => exact ⟨_, rfl⟩
theorem nt_ext (f : Heap → Prop) {o : HO} (h : o = .ext f := by rfl) : NT o := fun _ z => by rw [h] at z; cases z
def codeH (c : Addr) (q : Str) : Heap := { objs := Array.replicate (c + 1) { cls := .type "code", data := .fields #[.none, .str q 0] } }
theorem codeH_get {c a : Addr} {q : Str} {o : Obj} (h : (codeH c q).get? a = some o) : o.data = .fields #[.none, .str q 0] := by
  by_cases ha : a < c + 1
  · simp [codeH, Heap.get?, Array.getElem?_replicate, ha] at h
    rw [← h]
  · simp [codeH, Heap.get?, Array.getElem?_replicate, ha] at h
theorem codeO_ext {f : Heap → Prop} (c : Addr) (q : Str) (hf : ¬ f (codeH c q)) : LamX.CodeO c q ≠ .ext f := fun e => by
  unfold LamX.CodeO at e
  injection e with e
  refine hf ?_
  rw [← congrFun e (codeH c q)]
  exact ⟨_, _, 0, by simp [codeH, Heap.get?]; rfl, rfl, rfl⟩
theorem OwnN.setTO {P : Program} {w : World} {H : Hp} {a b : Addr} {L : List (Addr × List Int)} (h : H a = some (SetTO P w b L)) : OwnN H a := .inr ⟨_, h, nt_ext _, fun c q => codeO_ext c q fun s => by
  obtain ⟨es, ep, t, ⟨o, ho, _, hd⟩, _⟩ := s.ex
  rw [codeH_get ho] at hd
  cases hd⟩
theorem OwnN.setO {w : World} {H : Hp} {a b : Addr} {S : Int → Bool} {n : Nat} (h : H a = some (SetO w b S n)) : OwnN H a := .inr ⟨_, h, nt_ext _, fun c q => codeO_ext c q fun s => by
  obtain ⟨o, es, ep, t, ho, _, hd, _⟩ := s
  rw [codeH_get ho] at hd
  cases hd⟩
theorem sc_read {X : Cx} {pr : Bool} {it : Env → Option (List D)} {vs ts : List Nat} {bb : D → Env → Option Env} {cc : Env → Option Bool} {ee : Den} (hts : ∀ t ∈ ts, t ∈ vs) {σ : L2.St} {H : Hp} {Q : VK} (h : tE X.K .ow (d1 aLenK (dComp it vs bb cc ee)) σ H Q) :
    SC.tScG (fun D => SetTO X.prog X.w D []) (SC.AdT X.K X.prog X.w) (tI pr X.K .bw it) (tGo pr X.K ts bb) (tT X.K cc) (tE X.K .fz ee) vs σ H fun x H1 => ST.rLenS X.K X.prog X.w [x] H1 Q := by
  obtain ⟨H0, G0, G, ρ, d, ok, hf, q⟩ := h
  obtain ⟨dl, hf, hd⟩ := d1_eq hf
  unfold dComp at hf
  cases e1 : it ρ with
  | none => rw [e1] at hf; cases hf
  | some items =>
    rw [e1] at hf
    cases e2 : compL bb cc ee (wipeE ρ vs) items with
    | none => simp only [Option.bind_some, e2, Option.map_none] at hf; cases hf
    | some res =>
      simp only [Option.bind_some, e2, Option.map_some] at hf
      cases hf
      have hd' : (if res.length < 64 then (ksOf res).map fun ks => PyData.int ((ddL ks).length : Nat) else none) = some d := hd
      obtain ⟨hlen, hd2⟩ := iteS hd'
      obtain ⟨ks, hks, hd3⟩ := Option.map_eq_some_iff.mp hd2
      subst hd3
      have hres := ksOf_eq hks
      refine ⟨H0, G0, G, ρ, items, ok, e1, fun J H1 G1 s1 hJ D0 hD0 => ?_⟩
      have ok1 := ok.step s1
      refine ⟨fun i mm Hc => ∃ (Gc : Hp) (L : List (Addr × List Int)) (ak : List (List Int)), i + mm = items.length ∧ Step X.K H1 G1 Hc Gc ∧ Hc D0 = some (SetTO X.prog X.w D0 L) ∧ Gc D0 = none ∧ (∀ p ∈ L, Rp X.K Gc (.ref p.1) (kD p.2)) ∧ (∀ k, k ∈ L.map (·.2) ↔ k ∈ ak) ∧ L.length ≤ ak.length ∧ (compL bb cc ee (wipeE ρ vs) (items.drop i)).map (ak.map kD ++ ·) = some res,
        ⟨items.length, G1, [], [], by omega, Step.new' s1.gh hD0, upd_same, s1.gh.free hD0, fun _ z => (nomatch z), fun k => Iff.rfl, Nat.le_refl _, by rw [List.drop_zero, e2]; rfl⟩, fun i mm Hc hW => ?_⟩
      obtain ⟨Gc, L, ak, hi, st, hD, hG, ra, hm, hal, hr⟩ := hW
      by_cases hlt : i < items.length
      · have hg : items[i]? = some items[i] := List.getElem?_eq_getElem hlt
        obtain ⟨go, yl⟩ := hJ.go Hc Gc i _ st.same st.gg st.gh hg
        have hdrop : items.drop i = items[i] :: items.drop (i + 1) := List.drop_eq_getElem_cons hlt
        rw [hdrop] at hr
        refine .inr ⟨go, fun Hn => ∃ (Gn : Hp) (L : List (Addr × List Int)) (ak : List (List Int)), Step X.K H1 G1 Hn Gn ∧ Hn D0 = some (SetTO X.prog X.w D0 L) ∧ Gn D0 = none ∧ (∀ p ∈ L, Rp X.K Gn (.ref p.1) (kD p.2)) ∧ (∀ k, k ∈ L.map (·.2) ↔ k ∈ ak) ∧ L.length ≤ ak.length ∧ (compL bb cc ee (wipeE ρ vs) (items.drop (i + 1))).map (ak.map kD ++ ·) = some res,
          fun Hn ⟨Gn, L, ak, h1, h2, h3, h4, h5, h6, h7⟩ => ⟨mm - 1, by omega, Gn, L, ak, by omega, h1, h2, h3, h4, h5, h6, h7⟩, fun x Hy hy => ?_⟩
        obtain ⟨Gy, sy, ry⟩ := yl x Hy hy
        have sty := st.trans sy
        have oky : EnvOk X.K H0 G0 Hy Gy (wipe σ vs) (wipeE ρ vs) := (ok1.step sty).wipe vs
        have hr' : ((bb items[i] (wipeE ρ vs)).bind fun ρ1 => (cc ρ1).bind fun okb => if okb = true then (ee ρ1).bind fun y => (compL bb cc ee (wipeE ρ vs) (items.drop (i + 1))).bind fun ys => some (y :: ys) else compL bb cc ee (wipeE ρ vs) (items.drop (i + 1))).map (ak.map kD ++ ·) = some res := hr
        cases eb : bb items[i] (wipeE ρ vs) with
        | none => rw [eb] at hr'; cases hr'
        | some ρ1 =>
          rw [eb] at hr'
          simp only [Option.bind_some] at hr'
          refine ⟨H0, G0, Gy, _, _, ρ1, oky, ry, eb, fun σ2 ok2 on2 => ⟨?_, ?_⟩⟩
          · rw [on2 vs hts, wipe_wipe]
          · cases ec : cc ρ1 with
            | none => rw [ec] at hr'; cases hr'
            | some bt =>
              rw [ec] at hr'
              simp only [Option.bind_some] at hr'
              refine ⟨H0, G0, Gy, ρ1, bt, ok2, ec, fun H3 G3 s3 => ?_⟩
              have hDy : Hy D0 = some (SetTO X.prog X.w D0 L) := sy.same.at' _ _ hD (nt_ext _)
              have hGy : Gy D0 = none := by rw [sy.old D0 (some_ne hD)]; exact hG
              have hD3 : H3 D0 = some (SetTO X.prog X.w D0 L) := s3.same.at' _ _ hDy (nt_ext _)
              have hG3 : G3 D0 = none := by rw [s3.old D0 (some_ne hDy)]; exact hGy
              have st3 := sty.trans s3
              cases bt with
              | false =>
                refine iteF ?_
                simp only [Bool.false_eq_true, if_false] at hr'
                exact ⟨G3, L, ak, st3, hD3, hG3, fun p hp => (ra p hp).mono (sy.gg.trans s3.gg), hm, hal, hr'⟩
              | true =>
                refine iteT ?_
                simp only [if_true] at hr'
                cases ee1 : ee ρ1 with
                | none => rw [ee1] at hr'; cases hr'
                | some y =>
                  rw [ee1] at hr'
                  simp only [Option.bind_some] at hr'
                  refine ⟨H0, G0, G3, ρ1, y, ok2.step s3, ee1, fun v H4 G4 s4 r4 => ?_⟩
                  cases ec2 : compL bb cc ee (wipeE ρ vs) (items.drop (i + 1)) with
                  | none => rw [ec2] at hr'; cases hr'
                  | some ys =>
                    rw [ec2] at hr'
                    simp only [Option.bind_some, Option.map_some, Option.some.injEq] at hr'
                    have hy : y ∈ ks.map kD := by rw [← hres, ← hr']; simp
                    obtain ⟨k, hk, rfl⟩ := List.mem_map.mp hy
                    have hD4 : H4 D0 = some (SetTO X.prog X.w D0 L) := s4.same.at' _ _ hD3 (nt_ext _)
                    have hG4 : G4 D0 = none := by rw [s4.old D0 (some_ne hD3)]; exact hG3
                    have ra4 : ∀ p ∈ L, Rp X.K G4 (.ref p.1) (kD p.2) := fun p hp => (ra p hp).mono ((sy.gg.trans s3.gg).trans s4.gg)
                    have r4' : Rp X.K G4 v (kD k) := r4
                    obtain ⟨a, rfl⟩ := kD_ref r4'
                    have st4 := st3.trans s4
                    have hfew : L.length + 1 < 64 := by
                      have := congrArg List.length hr'
                      rw [List.length_append, List.length_map, List.length_cons] at this
                      omega
                    refine ⟨a, k, L, rfl, cellK_sq st4.gh r4', hD4, fun p hp => cellK_sq st4.gh (ra4 p hp), hfew, fun L' c1 c2 => ?_⟩
                    refine ⟨G4, L', ak ++ [k], ?_, upd_same, hG4, ?_, ?_, ?_, ?_⟩
                    · refine ⟨st4.same.ownN hD0 (OwnN.setTO hD4), st4.gg, fun b o hb => ?_, st4.old⟩
                      · have nb : b ≠ D0 := fun z => by rw [z, hG4] at hb; cases hb
                        rw [upd_ne nb]
                        exact st4.gh b o hb
                    · intro p hp
                      by_cases hin : k ∈ L.map (·.2)
                      · rw [c1 hin] at hp; exact ra4 p hp
                      · rcases List.mem_cons.mp ((c2 hin).mem_iff.mp hp) with z | z
                        · rw [z]; exact r4'
                        · exact ra4 p z
                    · intro j
                      by_cases hin : k ∈ L.map (·.2)
                      · rw [c1 hin, hm j, List.mem_append, List.mem_singleton]
                        exact ⟨.inl, fun z => z.elim id fun e => e ▸ (hm k).mp hin⟩
                      · rw [((c2 hin).map (·.2)).mem_iff, List.map_cons, List.mem_cons, hm j, List.mem_append, List.mem_singleton]
                        exact Or.comm
                    · rw [List.length_append, List.length_singleton]
                      by_cases hin : k ∈ L.map (·.2)
                      · rw [c1 hin]; omega
                      · rw [(c2 hin).length_eq, List.length_cons]; omega
                    · rw [Option.map_some, List.map_append, List.append_assoc]
                      exact congrArg some hr'
      · have hge : items.length ≤ i := by omega
        refine .inl ⟨hJ.stop Hc Gc i st.same st.gg st.gh (by omega), ?_⟩
        rw [List.drop_of_length_le hge] at hr
        simp only [compL, Option.map_some, List.append_nil, Option.some.injEq] at hr
        have hak : ak = ks := by
          rw [hres] at hr
          refine (List.map_inj_right (f := kD) fun a b e => ?_).mp hr
          unfold kD at e
          injection e with e
          exact (List.map_inj_right (f := PyData.int) fun x y z => by injection z).mp e
        subst hak
        refine ⟨D0, L, rfl, hD, fun p hp => cellK_sq st.gh (ra p hp), fun nd => ?_⟩
        rw [show L.length = (ddL ak).length by rw [← ddL_len nd hm, List.length_map]]
        exact q _ _ _ (s1.trans st) (ow_int _)
theorem e_lenSC {X : Cx} {pr : Bool} {elt tg iter : Expr} {ifs : List Expr} {scope : Scope} {own : List (Str × Nat)} {ts : List Nat} {it : Env → Option (List D)} {bb : D → Env → Option Env} {cc : Env → Option Bool} {ee : Den} {p pos spos : Pos} (hc : X.calm = true) (hu : X.A.units + 64 < cLine) (hgl : Gl X "len") (hm : X.mg "len" = none) (hN : X.N.Nodup)
    (hi : PI X tg iter (tI pr X.K .bw it)) (ok : BlkOk X.N X.env.scope scope own) (hts : ∀ t ∈ ts, t ∈ own.map (·.2))
    (hg : ∀ (s : Shared) (H : Hp) (C : Addr) (cl : List (Str × Addr)) (fp : List Addr), PG (X.blk s H scope (compEnvC scope cl C X.env) fp) tg (tGo pr X.K ts bb)) (ht : ∀ (s : Shared) (H : Hp) (C : Addr) (cl : List (Str × Addr)) (fp : List Addr), PTs (X.blk s H scope (compEnvC scope cl C X.env) fp) ifs (tT X.K cc))
    (he : ∀ (s : Shared) (H : Hp) (C : Addr) (cl : List (Str × Addr)) (fp : List Addr), PE (X.blk s H scope (compEnvC scope cl C X.env) fp) elt (tE X.K .fz ee)) (hs : ∀ x, foldedSetIterable iter X.env x = pure x) :
    PE X (.Call (.Name "len" p) [.SetComp elt [⟨tg, iter, ifs, 0⟩] scope spos] [] pos) (tE X.K .ow (d1 aLenK (dComp it (own.map (·.2)) bb cc ee))) :=
  peW (pe_callB ST.cr_lenS hgl hm PySem.boot_len (pa_cons (SC.pe (SC.famT hu) hc hN hi ok hg ht he hs) pa_nil (st1 rfl)) (by decide) (by decide) (st1 rfl) (back_ok _ _ _ rfl)) fun σ H Q h => sc_read hts h
theorem ddL_snoc {ak : List Int} (k : Int) : (ddL (ak ++ [k])).length = if k ∈ ak then (ddL ak).length else (ddL ak).length + 1 := by
  by_cases h : k ∈ ak
  · rw [if_pos h, ← ddL_len (ddL_nd ak) (ns := ak ++ [k]) fun j => ?_]
    rw [ddL_mem, List.mem_append, List.mem_singleton]
    exact ⟨.inl, fun q => q.elim id fun e => e ▸ h⟩
  · rw [if_neg h, ← ddL_len (ks := k :: ddL ak) (List.nodup_cons.mpr ⟨fun q => h (ddL_mem.mp q), ddL_nd ak⟩) (ns := ak ++ [k]) fun j => ?_]
    · rfl
    · rw [List.mem_cons, ddL_mem, List.mem_append, List.mem_singleton]
      exact Or.comm
theorem lenInts_eq {ds : List D} {d : D} (h : lenInts ds = some d) : ∃ ns, ds = ns.map PyData.int ∧ (ddL ns).length < 4000 ∧ d = .int ((ddL ns).length : Nat) := by
  obtain ⟨ns, h1, h⟩ := Option.bind_eq_some_iff.mp h
  split at h
  · cases h
    exact ⟨ns, intsOf_eq h1, by assumption, rfl⟩
  · cases h
theorem int_of_mem {ns : List Int} {y : D} (h : y ∈ ns.map PyData.int) : ∃ k, y = .int k := by
  obtain ⟨k, _, rfl⟩ := List.mem_map.mp h
  exact ⟨k, rfl⟩
theorem pre_ints {ak : List Int} {r : List D} {ns : List Int} (h : ak.map PyData.int ++ r = ns.map PyData.int) : (ddL ak).length ≤ (ddL ns).length := by
  refine ddL_le (ddL_nd ak) fun k hk => ?_
  have : PyData.int k ∈ ns.map PyData.int := by rw [← h]; exact List.mem_append_left _ (List.mem_map_of_mem (ddL_mem.mp hk))
  obtain ⟨j, hj, e⟩ := List.mem_map.mp this
  injection e with e
  exact e ▸ hj
theorem sc2_read {X : Cx} {pr pr1 : Bool} {it it1 : Env → Option (List D)} {vs ts vs1 ts1 : List Nat} {bb bb1 : D → Env → Option Env} {cc cc1 : Env → Option Bool} {ee : Den} (hts : ∀ t ∈ ts, t ∈ vs) (hts1 : ∀ t ∈ ts1, t ∈ vs1) {σ : L2.St} {H : Hp} {Q : VK} (h : tE X.K .ow (d1 aLenI (dComp2 it vs bb cc it1 vs1 bb1 cc1 ee)) σ H Q) :
    SC.tSc2 (fun D => SetO X.w D (fun j => decide (j ∈ ([] : List Int))) 0) (SC.AdI X.w) (tI pr X.K .bw it) (tGo pr X.K ts bb) (tT X.K cc) (tI pr1 X.K .fz it1) (tGo pr1 X.K ts1 bb1) (tT X.K cc1) (tE X.K .fz ee) vs vs1 σ H fun x H1 => ST.rLenI X.w [x] H1 Q := by
  obtain ⟨H0, G0, G, ρ, d, ok, hf, q⟩ := h
  obtain ⟨dl, hf, hd⟩ := d1_eq hf
  unfold dComp2 at hf
  obtain ⟨items, e1, hf⟩ := Option.bind_eq_some_iff.mp hf
  obtain ⟨res, e2, hf⟩ := Option.bind_eq_some_iff.mp hf
  obtain ⟨hsz, hf⟩ := iteS hf
  cases hf
  obtain ⟨ns, rfl, few, rfl⟩ := lenInts_eq (ds := res) hd
  refine ⟨H0, G0, G, ρ, items, ok, e1, fun J H1 G1 s1 hJ D0 hD0 => ?_⟩
  have ok1 := ok.step s1
  refine ⟨fun i mm Hc => ∃ (Gc : Hp) (S : Int → Bool) (ak : List Int), i + mm = items.length ∧ Step X.K H1 G1 Hc Gc ∧ Hc D0 = some (SetO X.w D0 S (ddL ak).length) ∧ Gc D0 = none ∧ (∀ j, S j = decide (j ∈ ak)) ∧ (comp2L bb cc it1 vs1 bb1 cc1 ee (wipeE ρ vs) (items.drop i)).map (ak.map PyData.int ++ ·) = some (ns.map PyData.int),
    ⟨items.length, G1, _, [], by omega, Step.new' s1.gh hD0, upd_same, s1.gh.free hD0, fun _ => rfl, by rw [List.drop_zero, e2]; rfl⟩, fun i mm Hc hW => ?_⟩
  obtain ⟨Gc, S, ak, hi, st, hD, hG, hS, hr⟩ := hW
  by_cases hlt : i < items.length
  · have hg : items[i]? = some items[i] := List.getElem?_eq_getElem hlt
    obtain ⟨go, yl⟩ := hJ.go Hc Gc i _ st.same st.gg st.gh hg
    rw [List.drop_eq_getElem_cons hlt] at hr
    refine .inr ⟨go, fun Hn => ∃ (Gn : Hp) (S : Int → Bool) (ak : List Int), Step X.K H1 G1 Hn Gn ∧ Hn D0 = some (SetO X.w D0 S (ddL ak).length) ∧ Gn D0 = none ∧ (∀ j, S j = decide (j ∈ ak)) ∧ (comp2L bb cc it1 vs1 bb1 cc1 ee (wipeE ρ vs) (items.drop (i + 1))).map (ak.map PyData.int ++ ·) = some (ns.map PyData.int),
      fun Hn ⟨Gn, S, ak, h1, h2, h3, h4, h5⟩ => ⟨mm - 1, by omega, Gn, S, ak, by omega, h1, h2, h3, h4, h5⟩, fun x Hy hy => ?_⟩
    obtain ⟨Gy, sy, ry⟩ := yl x Hy hy
    have sty := st.trans sy
    have oky : EnvOk X.K H0 G0 Hy Gy (wipe σ vs) (wipeE ρ vs) := (ok1.step sty).wipe vs
    obtain ⟨res', hr, hres⟩ := Option.map_eq_some_iff.mp hr
    obtain ⟨ρ1, eb, hr⟩ := Option.bind_eq_some_iff.mp hr
    obtain ⟨bt, ec, hr⟩ := Option.bind_eq_some_iff.mp hr
    refine ⟨H0, G0, Gy, _, _, ρ1, oky, ry, eb, fun σ2 ok2 on2 => ⟨by rw [on2 vs hts, wipe_wipe], H0, G0, Gy, ρ1, bt, ok2, ec, fun H3 G3 s3 => ?_⟩⟩
    have hDy : Hy D0 = some (SetO X.w D0 S (ddL ak).length) := sy.same.at' _ _ hD (nt_ext _)
    have hGy : Gy D0 = none := by rw [sy.old D0 (some_ne hD)]; exact hG
    have hD3 : H3 D0 = some (SetO X.w D0 S (ddL ak).length) := s3.same.at' _ _ hDy (nt_ext _)
    have hG3 : G3 D0 = none := by rw [s3.old D0 (some_ne hDy)]; exact hGy
    have st3 := sty.trans s3
    cases bt with
    | false =>
      refine iteF ?_
      simp only [Bool.false_eq_true, if_false] at hr
      exact ⟨G3, S, ak, st3, hD3, hG3, hS, by rw [hr]; exact congrArg some hres⟩
    | true =>
      refine iteT ?_
      simp only [if_true] at hr
      have ok3 := (ok2.step s3).noOwn
      obtain ⟨items1, ei, hr⟩ := Option.bind_eq_some_iff.mp hr
      obtain ⟨ys, eo, hr⟩ := Option.bind_eq_some_iff.mp hr
      obtain ⟨zs, er, hr⟩ := Option.map_eq_some_iff.mp hr
      subst hr
      refine ⟨H0, G0, G3, noOwn ρ1, items1, ok3, ei, fun J1 H4 G4 s4 hJ1 => ?_⟩
      have hD4 : H4 D0 = some (SetO X.w D0 S (ddL ak).length) := s4.same.at' _ _ hD3 (nt_ext _)
      have hG4 : G4 D0 = none := by rw [s4.old D0 (some_ne hD3)]; exact hG3
      refine ⟨fun j kk Hc => ∃ (Gc : Hp) (S : Int → Bool) (ak : List Int) (ws : List D), j + kk = items1.length ∧ Step X.K H1 G1 Hc Gc ∧ Same G4 Gc ∧ Hc D0 = some (SetO X.w D0 S (ddL ak).length) ∧ Gc D0 = none ∧ (∀ j, S j = decide (j ∈ ak)) ∧ compL bb1 cc1 ee (wipeE (noOwn ρ1) vs1) (items1.drop j) = some ws ∧ ak.map PyData.int ++ (ws ++ zs) = ns.map PyData.int,
        ⟨items1.length, G4, S, ak, ys, by omega, st3.trans s4, Same.refl _, hD4, hG4, hS, by rw [List.drop_zero]; exact eo, hres⟩, fun j kk Hj hW1 => ?_⟩
      obtain ⟨Gj, Sj, aj, ws, hj, stj, ggj, hDj, hGj, hSj, hrj, hresj⟩ := hW1
      have okj : EnvOk X.K H0 G0 Hj Gj σ2 (noOwn ρ1) := ok3.later (ok1.st.trans stj) (s4.gg.trans ggj)
      by_cases hlt1 : j < items1.length
      · have hg1 : items1[j]? = some items1[j] := List.getElem?_eq_getElem hlt1
        obtain ⟨go1, yl1⟩ := hJ1.go Hj Gj j _ True.intro ggj stj.gh hg1
        rw [List.drop_eq_getElem_cons hlt1] at hrj
        refine .inr ⟨go1, fun Hn => ∃ (Gn : Hp) (S : Int → Bool) (ak : List Int) (ws : List D), Step X.K H1 G1 Hn Gn ∧ Same G4 Gn ∧ Hn D0 = some (SetO X.w D0 S (ddL ak).length) ∧ Gn D0 = none ∧ (∀ j, S j = decide (j ∈ ak)) ∧ compL bb1 cc1 ee (wipeE (noOwn ρ1) vs1) (items1.drop (j + 1)) = some ws ∧ ak.map PyData.int ++ (ws ++ zs) = ns.map PyData.int,
          fun Hn ⟨Gn, S, a, w, h1, h2, h3, h4, h5, h6, h7⟩ => ⟨kk - 1, by omega, Gn, S, a, w, by omega, h1, h2, h3, h4, h5, h6, h7⟩, fun x1 Hz hz => ?_⟩
        obtain ⟨Gz, sz, rz⟩ := yl1 x1 Hz hz
        have okz : EnvOk X.K H0 G0 Hz Gz (wipe σ2 vs1) (wipeE (noOwn ρ1) vs1) := (okj.step sz).wipe vs1
        have hrj : ((bb1 items1[j] (wipeE (noOwn ρ1) vs1)).bind fun ρ3 => (cc1 ρ3).bind fun okb => if okb = true then (ee ρ3).bind fun y => (compL bb1 cc1 ee (wipeE (noOwn ρ1) vs1) (items1.drop (j + 1))).bind fun ys => some (y :: ys) else compL bb1 cc1 ee (wipeE (noOwn ρ1) vs1) (items1.drop (j + 1))) = some ws := hrj
        obtain ⟨ρ3, eb1, hrj⟩ := Option.bind_eq_some_iff.mp hrj
        obtain ⟨bt1, ec1, hrj⟩ := Option.bind_eq_some_iff.mp hrj
        refine ⟨H0, G0, Gz, _, _, ρ3, okz, rz, eb1, fun σ3 ok5 on3 => ⟨by rw [on3 vs1 hts1, wipe_wipe], H0, G0, Gz, ρ3, bt1, ok5, ec1, fun H6 G6 s6 => ?_⟩⟩
        have hDz : Hz D0 = some (SetO X.w D0 Sj (ddL aj).length) := sz.same.at' _ _ hDj (nt_ext _)
        have hGz : Gz D0 = none := by rw [sz.old D0 (some_ne hDj)]; exact hGj
        have hD6 : H6 D0 = some (SetO X.w D0 Sj (ddL aj).length) := s6.same.at' _ _ hDz (nt_ext _)
        have hG6 : G6 D0 = none := by rw [s6.old D0 (some_ne hDz)]; exact hGz
        have st6 := (stj.trans sz).trans s6
        have gg6 := (ggj.trans sz.gg).trans s6.gg
        cases bt1 with
        | false =>
          refine iteF ?_
          simp only [Bool.false_eq_true, if_false] at hrj
          exact ⟨G6, Sj, aj, ws, st6, gg6, hD6, hG6, hSj, hrj, hresj⟩
        | true =>
          refine iteT ?_
          simp only [if_true] at hrj
          obtain ⟨y, ee1, hrj⟩ := Option.bind_eq_some_iff.mp hrj
          obtain ⟨w2, ew, hrj⟩ := Option.bind_eq_some_iff.mp hrj
          cases hrj
          refine ⟨H0, G0, G6, ρ3, y, ok5.step s6, ee1, fun v H7 G7 s7 r7 => ?_⟩
          have hD7 : H7 D0 = some (SetO X.w D0 Sj (ddL aj).length) := s7.same.at' _ _ hD6 (nt_ext _)
          have hG7 : G7 D0 = none := by rw [s7.old D0 (some_ne hD6)]; exact hG6
          obtain ⟨k, rfl⟩ : ∃ k, y = .int k := int_of_mem (ns := ns) (by rw [← hresj]; simp)
          have r7' : Rp X.K G7 v (.int k) := r7
          cases r7'
          have hres' : (aj ++ [k]).map PyData.int ++ (w2 ++ zs) = ns.map PyData.int := by
            rw [← hresj]
            simp
          have hle := pre_ints hresj
          refine ⟨k, Sj, (ddL aj).length, rfl, hD7, by unfold scanBound; omega, ?_⟩
          refine ⟨G7, fun j => Sj j || decide (j = k), aj ++ [k], w2, (st6.trans s7).updD hD0 hG7 (OwnN.setO hD7), gg6.trans s7.gg, ?_, hG7, fun j => ?_, ew, hres'⟩
          · rw [upd_same, ddL_snoc]
            congr 2
            by_cases hk : k ∈ aj
            · rw [if_pos hk, if_pos (by rw [hSj]; exact decide_eq_true hk)]
            · rw [if_neg hk, if_neg (by rw [hSj]; simpa using hk)]
          · show (Sj j || decide (j = k)) = decide (j ∈ aj ++ [k])
            rw [hSj]
            by_cases a1 : j ∈ aj <;> by_cases a2 : j = k <;> simp [a1, a2]
      · rw [List.drop_of_length_le (by omega)] at hrj
        have hrj : some ([] : List D) = some ws := hrj
        cases hrj
        refine .inl ⟨hJ1.stop Hj Gj j True.intro ggj stj.gh (by omega), Gj, Sj, aj, stj, hDj, hGj, hSj, ?_⟩
        rw [er]
        exact congrArg some hresj
  · rw [List.drop_of_length_le (by omega)] at hr
    have hr : some (ak.map PyData.int ++ []) = some (ns.map PyData.int) := hr
    rw [List.append_nil] at hr
    have hak : ak = ns := (List.map_inj_right (f := PyData.int) fun x y z => by injection z).mp (Option.some.inj hr)
    subst hak
    refine .inl ⟨hJ.stop Hc Gc i st.same st.gg st.gh (by omega), D0, S, _, rfl, hD, ?_⟩
    exact q _ _ _ (s1.trans st) (ow_int _)
theorem e_lenSC2 {X : Cx} {pr pr1 : Bool} {elt tg iter tg1 iter1 : Expr} {ifs ifs1 : List Expr} {scope : Scope} {own : List (Str × Nat)} {ts ts1 : List Nat} {it it1 : Env → Option (List D)} {bb bb1 : D → Env → Option Env} {cc cc1 : Env → Option Bool} {ee : Den} {p pos spos : Pos} (hc : X.calm = true) (hgl : Gl X "len") (hm : X.mg "len" = none) (hN : X.N.Nodup)
    (hi : PI X tg iter (tI pr X.K .bw it)) (ok : BlkOk X.N X.env.scope scope own) (hts : ∀ t ∈ ts, t ∈ own.map (·.2)) (hts1 : ∀ t ∈ ts1, t ∈ own.map (·.2))
    (hg : ∀ (s : Shared) (H : Hp) (C : Addr) (cl : List (Str × Addr)) (fp : List Addr), PG (X.blk s H scope (compEnvC scope cl C X.env) fp) tg (tGo pr X.K ts bb)) (ht : ∀ (s : Shared) (H : Hp) (C : Addr) (cl : List (Str × Addr)) (fp : List Addr), PTs (X.blk s H scope (compEnvC scope cl C X.env) fp) ifs (tT X.K cc))
    (hi1 : ∀ (s : Shared) (H : Hp) (C : Addr) (cl : List (Str × Addr)) (fp : List Addr), PI (X.blk s H scope (compEnvC scope cl C X.env) fp) tg1 iter1 (tI pr1 X.K .fz it1))
    (hg1 : ∀ (s : Shared) (H : Hp) (C : Addr) (cl : List (Str × Addr)) (fp : List Addr), PG (X.blk s H scope (compEnvC scope cl C X.env) fp) tg1 (tGo pr1 X.K ts1 bb1)) (ht1 : ∀ (s : Shared) (H : Hp) (C : Addr) (cl : List (Str × Addr)) (fp : List Addr), PTs (X.blk s H scope (compEnvC scope cl C X.env) fp) ifs1 (tT X.K cc1))
    (he : ∀ (s : Shared) (H : Hp) (C : Addr) (cl : List (Str × Addr)) (fp : List Addr), PE (X.blk s H scope (compEnvC scope cl C X.env) fp) elt (tE X.K .fz ee)) (hs : ∀ x, foldedSetIterable iter X.env x = pure x) (hs1 : ∀ env x, foldedSetIterable iter1 env x = pure x) :
    PE X (.Call (.Name "len" p) [.SetComp elt [⟨tg, iter, ifs, 0⟩, ⟨tg1, iter1, ifs1, 0⟩] scope spos] [] pos) (tE X.K .ow (d1 aLenI (dComp2 it (own.map (·.2)) bb cc it1 ts1 bb1 cc1 ee))) :=
  peW (pe_callB ST.cr_lenIS hgl hm PySem.boot_len (pa_cons (SC.pe2 SC.famI hc hN hi ok hts1 hg ht hi1 hg1 ht1 he hs hs1) pa_nil (st1 rfl)) (by decide) (by decide) (st1 rfl) (back_ok _ _ _ rfl)) fun σ H Q h => sc2_read hts (fun _ h => h) h
end PF
namespace SC
open PySem PySem.Spec PyProof.Rows L2 PpSet
def putB (kx vx : Expr) (acc : Value) (env : PySem.Env) : Sem Unit := eval kx env >>= fun kv => holding [kv] (eval vx env) >>= fun vv => match acc with
  | .ref d => standAt { kx.pos with endLine := vx.pos.endLine, endCol := vx.pos.endCol } >>= fun _ => holding [kv, vv] (dictSet d kv vv)
  | _ => unsupported "internal:dictcomp"
section
variable {X : Cx} {kx vx tg iter tg1 iter1 : Expr} {ifs ifs1 : List Expr} {scope : Scope} {own : List (PySem.Str × Nat)} {vs1 : List Nat} {pos : Pos} {wi wi1 : TI} {g g1 : TG} {tt tt1 : TT} {tk tv : TE}
theorem put_body (hu : X.A.units + 10 < cLine) (D : Addr) (σ0 : L2.St) (vs : List Nat) {q : Shared} {H : Hp} {C : Addr} {cl : List (PySem.Str × Addr)} {fp : List Addr} (hk : PE (X.blk q H scope (compEnvC scope cl C X.env) fp) kx tk) (hv : PE (X.blk q H scope (compEnvC scope cl C X.env) fp) vx tv) :
    Body (X.blk q H scope (compEnvC scope cl C X.env) fp) (putB kx vx (.ref D) (compEnvC scope cl C X.env)) σ0 vs (fun σ2 H3 Nx => tk σ2 H3 fun y H4 => tv σ2 H4 fun z H5 => DN.PutD D Nx y z H5) := by
  intro pins σ2 Hz z Nx Post Ex I e2 h back
  unfold putB
  refine wpAny_bind (thnX (Y := X.blk q H scope (compEnvC scope cl C X.env) fp) rfl (hk.run pins z σ2 Hz _ I h) fun u q1 ⟨y, H1, I1, r1, h1⟩ => ?_)
  refine wpAny_bind (wpAny_holding (thnX (Y := X.blk q H scope (compEnvC scope cl C X.env) fp) rfl (hv.run pins q1 σ2 H1 _ I1 h1) fun u2 q2 ⟨y2, H2, I2, r2, ep, xs, k, b, ek, hD, ks, hkk, hz, nx⟩ => ?_))
  subst ek
  obtain rfl : u = Value.ref b := r1
  refine wpAny_bind (wpAny_standAt (wpAny_holding ?_))
  exact DN.n_dictSet (X := X.blk q H scope (compEnvC scope cl C X.env) fp) hu I2 hD ks hkk hz r2 fun ep' q3 I3 => back σ2 q3 _ I3 (.wiped e2) (nx ep')
theorem rd_d2 {P : Program} {w : World} {A : Around} (acc : Value) (env : PySem.Env) : Rd P w A (.DictComp kx vx [⟨tg, iter, ifs, 0⟩, ⟨tg1, iter1, ifs1, 0⟩] scope pos) 0 acc env iter tg ifs (innB (.DictComp kx vx [⟨tg, iter, ifs, 0⟩, ⟨tg1, iter1, ifs1, 0⟩] scope pos) iter1 acc env) := ⟨fun _ => by simp only [turnC, innB, bind_assoc, pure_bind]; rfl, fun _ => rfl, fun _ => rfl, fun _ => rfl, fun _ => rfl, fun _ => rfl, rfl⟩
theorem rd_d3 {P : Program} {w : World} {A : Around} (D : Addr) (env : PySem.Env) : Rd P w A (.DictComp kx vx [⟨tg, iter, ifs, 0⟩, ⟨tg1, iter1, ifs1, 0⟩] scope pos) 1 (.ref D) env iter1 tg1 ifs1 (putB kx vx (.ref D) env) := ⟨fun _ => rfl, fun _ => rfl, fun _ => rfl, fun _ => rfl, fun _ => rfl, fun _ => rfl, rfl⟩
def tDc2 (wi : TI) (g : TG) (tt : TT) (wi1 : TI) (g1 : TG) (tt1 : TT) (tk tv : TE) (vs vs1 : List Nat) : TE := tC (fun D => DN.DK D 0 []) (fun D => In2 wi1 g1 tt1 vs1 fun σ2 H3 Nx => tk σ2 H3 fun y H4 => tv σ2 H4 fun z H5 => DN.PutD D Nx y z H5) wi g tt vs
theorem dk_at {X : Cx} {H : Hp} {h : Heap} {a : Addr} (e : h.get? a = some { cls := .type "dict", data := .dict #[] }) (hne : a ≠ sysModules) : ObjOk X.prog X.w H h a (DN.DK a 0 []) :=
  DN.DKp.obj ⟨beq_eq_false_iff_ne.mpr hne, Nat.zero_le _, List.nodup_nil, _, #[], e, ⟨rfl, rfl, rfl⟩, rfl, .nil⟩
theorem pe_d2 (hu : X.A.units + 10 < cLine) (hc : X.calm = true) (hN : X.N.Nodup) (hi : PI X tg iter wi) (ok : BlkOk X.N X.env.scope scope own) (hv : ∀ i ∈ vs1, i ∈ own.map (·.2))
    (hg : ∀ (q : Shared) (H : Hp) (C : Addr) (cl : List (PySem.Str × Addr)) (fp : List Addr), PG (X.blk q H scope (compEnvC scope cl C X.env) fp) tg g) (ht : ∀ (q : Shared) (H : Hp) (C : Addr) (cl : List (PySem.Str × Addr)) (fp : List Addr), PTs (X.blk q H scope (compEnvC scope cl C X.env) fp) ifs tt)
    (hi1 : ∀ (q : Shared) (H : Hp) (C : Addr) (cl : List (PySem.Str × Addr)) (fp : List Addr), PI (X.blk q H scope (compEnvC scope cl C X.env) fp) tg1 iter1 wi1)
    (hg1 : ∀ (q : Shared) (H : Hp) (C : Addr) (cl : List (PySem.Str × Addr)) (fp : List Addr), PG (X.blk q H scope (compEnvC scope cl C X.env) fp) tg1 g1) (ht1 : ∀ (q : Shared) (H : Hp) (C : Addr) (cl : List (PySem.Str × Addr)) (fp : List Addr), PTs (X.blk q H scope (compEnvC scope cl C X.env) fp) ifs1 tt1)
    (hk : ∀ (q : Shared) (H : Hp) (C : Addr) (cl : List (PySem.Str × Addr)) (fp : List Addr), PE (X.blk q H scope (compEnvC scope cl C X.env) fp) kx tk) (hvx : ∀ (q : Shared) (H : Hp) (C : Addr) (cl : List (PySem.Str × Addr)) (fp : List Addr), PE (X.blk q H scope (compEnvC scope cl C X.env) fp) vx tv)
    (hs : ∀ x, foldedSetIterable iter X.env x = pure x) (hs1 : ∀ env x, foldedSetIterable iter1 env x = pure x) :
    PE X (.DictComp kx vx [⟨tg, iter, ifs, 0⟩, ⟨tg1, iter1, ifs1, 0⟩] scope pos) (tDc2 wi g tt wi1 g1 tt1 tk tv (own.map (·.2)) vs1) := by
  refine ⟨fun pins z σ H Q I h => ?_⟩
  rw [arm_eval_DictComp]
  refine coreC (ob := { cls := .type "dict", data := .dict #[] }) rfl (fun q Q h => wpAny_newObj_type h) rfl (fun H h a e n => dk_at e n) hc hN I hi ok rd_d2 hg ht (fun q H C cl fp D σ0 => inner (Y := X.blk q H scope (compEnvC scope cl C X.env) fp) (rd_d3 _ _) hc rfl (hi1 q H C cl fp) (hg1 q H C cl fp) (ht1 q H C cl fp) (hs1 _) hv fun σ => put_body hu D _ _ (hk q H C cl fp) (hvx q H C cl fp)) hs h fun D C q m H' I' y hn f => ⟨m, hn, fun h2 sb => ?_⟩
  obtain ⟨f0, f1, f2, f3, f4, f5⟩ := f
  exact ⟨.ref D, H', I'.turned (t' := q.toks) (fun b o hb e => (sb.2 b hb).trans e) f0 f1 f3 f4 f5, rfl, y⟩
end
end SC
namespace PF
open PySem PySem.Spec PyProof.Rows L2
def dc2L (b : D → Env → Option Env) (c : Env → Option Bool) (it1 : Env → Option (List D)) (vs1 : List Nat) (b1 : D → Env → Option Env) (c1 : Env → Option Bool) (kk vv : Den) (ρ0 : Env) : List D → List (D × D) → Option (List (D × D))
  | [], acc => some acc
  | x :: xs, acc => (b x ρ0).bind fun ρ1 => (c ρ1).bind fun ok => if ok = true then (it1 (noOwn ρ1)).bind fun items1 => (dcL b1 c1 kk vv (wipeE (noOwn ρ1) vs1) items1 acc).bind fun acc' => dc2L b c it1 vs1 b1 c1 kk vv ρ0 xs acc' else dc2L b c it1 vs1 b1 c1 kk vv ρ0 xs acc
def dDComp2 (it : Env → Option (List D)) (vs : List Nat) (b : D → Env → Option Env) (c : Env → Option Bool) (it1 : Env → Option (List D)) (vs1 : List Nat) (b1 : D → Env → Option Env) (c1 : Env → Option Bool) (kk vv : Den) : Den :=
  fun ρ => (it ρ).bind fun items => (dc2L b c it1 vs1 b1 c1 kk vv (wipeE ρ vs) items []).bind fun kvs => if kvs.length < sizeLine then some (dicD kvs) else none
theorem putKV_ge (kvs : List (D × D)) (k : NestedKey) (d v : D) : kvs.length ≤ (putKV kvs k d v).length := by
  unfold putKV
  split <;> simp
theorem dcL_ge {b : D → Env → Option Env} {c : Env → Option Bool} {kk vv : Den} {ρ0 : Env} : ∀ {xs : List D} {acc kvs : List (D × D)}, dcL b c kk vv ρ0 xs acc = some kvs → acc.length ≤ kvs.length
  | [], _, _, h => by cases h; exact Nat.le_refl _
  | x :: xs, acc, kvs, h => by
    unfold dcL at h
    obtain ⟨ρ1, _, h⟩ := Option.bind_eq_some_iff.mp h
    obtain ⟨bt, _, h⟩ := Option.bind_eq_some_iff.mp h
    split at h
    · obtain ⟨kd, _, h⟩ := Option.bind_eq_some_iff.mp h
      obtain ⟨vd, _, h⟩ := Option.bind_eq_some_iff.mp h
      obtain ⟨key, _, h⟩ := Option.bind_eq_some_iff.mp h
      exact Nat.le_trans (putKV_ge ..) (dcL_ge h)
    · exact dcL_ge h
theorem dc2L_ge {b : D → Env → Option Env} {c : Env → Option Bool} {it1 : Env → Option (List D)} {vs1 : List Nat} {b1 : D → Env → Option Env} {c1 : Env → Option Bool} {kk vv : Den} {ρ0 : Env} : ∀ {xs : List D} {acc kvs : List (D × D)}, dc2L b c it1 vs1 b1 c1 kk vv ρ0 xs acc = some kvs → acc.length ≤ kvs.length
  | [], _, _, h => by cases h; exact Nat.le_refl _
  | x :: xs, acc, kvs, h => by
    unfold dc2L at h
    obtain ⟨ρ1, _, h⟩ := Option.bind_eq_some_iff.mp h
    obtain ⟨bt, _, h⟩ := Option.bind_eq_some_iff.mp h
    split at h
    · obtain ⟨items1, _, h⟩ := Option.bind_eq_some_iff.mp h
      obtain ⟨a, h1, h⟩ := Option.bind_eq_some_iff.mp h
      exact Nat.le_trans (dcL_ge h1) (dc2L_ge h)
    · exact dc2L_ge h
theorem dc2_read {K : PySem.W.Frag} {pr pr1 : Bool} {it it1 : Env → Option (List D)} {vs ts vs1 ts1 : List Nat} {bb bb1 : D → Env → Option Env} {cc cc1 : Env → Option Bool} {kk vv : Den} (hts : ∀ t ∈ ts, t ∈ vs) (hts1 : ∀ t ∈ ts1, t ∈ vs1) {σ : L2.St} {H : Hp} {Q : VK} (h : tE K .fz (dDComp2 it vs bb cc it1 vs1 bb1 cc1 kk vv) σ H Q) :
    SC.tDc2 (tI pr K .bw it) (tGo pr K ts bb) (tT K cc) (tI pr1 K .fz it1) (tGo pr1 K ts1 bb1) (tT K cc1) (tE K .fz kk) (tE K .fz vv) vs vs1 σ H Q := by
  obtain ⟨H0, G0, G, ρ, d, ok, hf, q⟩ := h
  unfold dDComp2 at hf
  obtain ⟨items, e1, hf⟩ := Option.bind_eq_some_iff.mp hf
  obtain ⟨kvs, e2, hf⟩ := Option.bind_eq_some_iff.mp hf
  obtain ⟨hsz, hf⟩ := iteS hf
  cases hf
  refine ⟨H0, G0, G, ρ, items, ok, e1, fun J H1 G1 s1 hJ D0 hD0 => ?_⟩
  have ok1 := ok.step s1
  refine ⟨fun i mm Hc => ∃ (Gc : Hp) (ep : Nat) (xs : List DN.Ent) (acc : List (D × D)), i + mm = items.length ∧ Step K H1 G1 Hc Gc ∧ Hc D0 = some (DN.DK D0 ep xs) ∧ Gc D0 = none ∧ RpKV K Gc xs acc ∧ dc2L bb cc it1 vs1 bb1 cc1 kk vv (wipeE ρ vs) (items.drop i) acc = some kvs,
    ⟨items.length, G1, 0, [], [], by omega, Step.new' s1.gh hD0, upd_same, s1.gh.free hD0, .nil, by rw [List.drop_zero, e2]⟩, fun i mm Hc hW => ?_⟩
  obtain ⟨Gc, ep, xs, acc, hi, st, hD, hG, ra, hr⟩ := hW
  by_cases hlt : i < items.length
  · have hg : items[i]? = some items[i] := List.getElem?_eq_getElem hlt
    obtain ⟨go, yl⟩ := hJ.go Hc Gc i _ st.same st.gg st.gh hg
    rw [List.drop_eq_getElem_cons hlt] at hr
    refine .inr ⟨go, fun Hn => ∃ (Gn : Hp) (ep : Nat) (xs : List DN.Ent) (acc : List (D × D)), Step K H1 G1 Hn Gn ∧ Hn D0 = some (DN.DK D0 ep xs) ∧ Gn D0 = none ∧ RpKV K Gn xs acc ∧ dc2L bb cc it1 vs1 bb1 cc1 kk vv (wipeE ρ vs) (items.drop (i + 1)) acc = some kvs,
      fun Hn ⟨Gn, ep, xs, acc, h1, h2, h3, h4, h5⟩ => ⟨mm - 1, by omega, Gn, ep, xs, acc, by omega, h1, h2, h3, h4, h5⟩, fun x Hy hy => ?_⟩
    obtain ⟨Gy, sy, ry⟩ := yl x Hy hy
    have sty := st.trans sy
    have oky : EnvOk K H0 G0 Hy Gy (wipe σ vs) (wipeE ρ vs) := (ok1.step sty).wipe vs
    unfold dc2L at hr
    obtain ⟨ρ1, eb, hr⟩ := Option.bind_eq_some_iff.mp hr
    obtain ⟨bt, ec, hr⟩ := Option.bind_eq_some_iff.mp hr
    refine ⟨H0, G0, Gy, _, _, ρ1, oky, ry, eb, fun σ2 ok2 on2 => ⟨by rw [on2 vs hts, wipe_wipe], H0, G0, Gy, ρ1, bt, ok2, ec, fun H3 G3 s3 => ?_⟩⟩
    have s13 : Step K Hc Gc H3 G3 := sy.trans s3
    have hD3 : H3 D0 = some (DN.DK D0 ep xs) := s13.same.dk hD
    have hG3 : G3 D0 = none := by rw [s13.old D0 (some_ne hD)]; exact hG
    have st3 := sty.trans s3
    cases bt with
    | false =>
      refine iteF ?_
      simp only [Bool.false_eq_true, if_false] at hr
      exact ⟨G3, ep, xs, acc, st3, hD3, hG3, ra.mono s13.gg, hr⟩
    | true =>
      refine iteT ?_
      simp only [if_true] at hr
      have ok3 := (ok2.step s3).noOwn
      obtain ⟨items1, ei, hr⟩ := Option.bind_eq_some_iff.mp hr
      refine ⟨H0, G0, G3, noOwn ρ1, items1, ok3, ei, fun J1 H4 G4 s4 hJ1 => ?_⟩
      have hD4 : H4 D0 = some (DN.DK D0 ep xs) := s4.same.dk hD3
      have hG4 : G4 D0 = none := by rw [s4.old D0 (some_ne hD3)]; exact hG3
      refine ⟨fun j ll Hc => ∃ (Gc : Hp) (ep : Nat) (xs : List DN.Ent) (acc : List (D × D)), j + ll = items1.length ∧ Step K H1 G1 Hc Gc ∧ Same G4 Gc ∧ Hc D0 = some (DN.DK D0 ep xs) ∧ Gc D0 = none ∧ RpKV K Gc xs acc ∧ ((dcL bb1 cc1 kk vv (wipeE (noOwn ρ1) vs1) (items1.drop j) acc).bind fun acc' => dc2L bb cc it1 vs1 bb1 cc1 kk vv (wipeE ρ vs) (items.drop (i + 1)) acc') = some kvs,
        ⟨items1.length, G4, ep, xs, acc, by omega, st3.trans s4, Same.refl _, hD4, hG4, ra.mono (s13.gg.trans s4.gg), by rw [List.drop_zero]; exact hr⟩, fun j ll Hj hW1 => ?_⟩
      obtain ⟨Gj, epj, xsj, aj, hj, stj, ggj, hDj, hGj, raj, hrj⟩ := hW1
      have okj : EnvOk K H0 G0 Hj Gj σ2 (noOwn ρ1) := ok3.later (ok1.st.trans stj) (s4.gg.trans ggj)
      by_cases hlt1 : j < items1.length
      · have hg1 : items1[j]? = some items1[j] := List.getElem?_eq_getElem hlt1
        obtain ⟨go1, yl1⟩ := hJ1.go Hj Gj j _ True.intro ggj stj.gh hg1
        rw [List.drop_eq_getElem_cons hlt1] at hrj
        refine .inr ⟨go1, fun Hn => ∃ (Gn : Hp) (ep : Nat) (xs : List DN.Ent) (acc : List (D × D)), Step K H1 G1 Hn Gn ∧ Same G4 Gn ∧ Hn D0 = some (DN.DK D0 ep xs) ∧ Gn D0 = none ∧ RpKV K Gn xs acc ∧ ((dcL bb1 cc1 kk vv (wipeE (noOwn ρ1) vs1) (items1.drop (j + 1)) acc).bind fun acc' => dc2L bb cc it1 vs1 bb1 cc1 kk vv (wipeE ρ vs) (items.drop (i + 1)) acc') = some kvs,
          fun Hn ⟨Gn, ep, xs, acc, h1, h2, h3, h4, h5, h6⟩ => ⟨ll - 1, by omega, Gn, ep, xs, acc, by omega, h1, h2, h3, h4, h5, h6⟩, fun x1 Hz hz => ?_⟩
        obtain ⟨Gz, sz, rz⟩ := yl1 x1 Hz hz
        have okz : EnvOk K H0 G0 Hz Gz (wipe σ2 vs1) (wipeE (noOwn ρ1) vs1) := (okj.step sz).wipe vs1
        obtain ⟨acc', hrj, hrest⟩ := Option.bind_eq_some_iff.mp hrj
        unfold dcL at hrj
        obtain ⟨ρ3, eb1, hrj⟩ := Option.bind_eq_some_iff.mp hrj
        obtain ⟨bt1, ec1, hrj⟩ := Option.bind_eq_some_iff.mp hrj
        refine ⟨H0, G0, Gz, _, _, ρ3, okz, rz, eb1, fun σ3 ok5 on3 => ⟨by rw [on3 vs1 hts1, wipe_wipe], H0, G0, Gz, ρ3, bt1, ok5, ec1, fun H6 G6 s6 => ?_⟩⟩
        have sj6 : Step K Hj Gj H6 G6 := sz.trans s6
        have hD6 : H6 D0 = some (DN.DK D0 epj xsj) := sj6.same.dk hDj
        have hG6 : G6 D0 = none := by rw [sj6.old D0 (some_ne hDj)]; exact hGj
        have st6 := stj.trans sj6
        have gg6 := ggj.trans sj6.gg
        cases bt1 with
        | false =>
          refine iteF ?_
          simp only [Bool.false_eq_true, if_false] at hrj
          exact ⟨G6, epj, xsj, aj, st6, gg6, hD6, hG6, raj.mono sj6.gg, by rw [hrj]; exact hrest⟩
        | true =>
          refine iteT ?_
          simp only [if_true] at hrj
          obtain ⟨kd, ek, hrj⟩ := Option.bind_eq_some_iff.mp hrj
          obtain ⟨vd, ev, hrj⟩ := Option.bind_eq_some_iff.mp hrj
          obtain ⟨key, eky, hrj⟩ := Option.bind_eq_some_iff.mp hrj
          refine ⟨H0, G0, G6, ρ3, kd, ok5.step s6, ek, fun y H7 G7 s7 r7 => ⟨H0, G0, G7, ρ3, vd, (ok5.step s6).step s7, ev, fun z H8 G8 s8 r8 => ?_⟩⟩
          have sj8 : Step K Hj Gj H8 G8 := (sj6.trans s7).trans s8
          have st8 := (st6.trans s7).trans s8
          have hD8 : H8 D0 = some (DN.DK D0 epj xsj) := sj8.same.dk hDj
          have hG8 : G8 D0 = none := by rw [sj8.old D0 (some_ne hDj)]; exact hGj
          have r7' : Rp K G8 y kd := Rp.mono s8.gg r7
          have ra8 := raj.mono sj8.gg
          obtain ⟨⟨ds, ed⟩, _, _⟩ := keyT_tup eky
          obtain ⟨b, rfl⟩ : ∃ b, y = .ref b := by
            rw [ed] at r7'
            cases r7' with
            | tup e r => exact ⟨_, rfl⟩
          have hl1 : aj.length ≤ kvs.length := Nat.le_trans (putKV_ge aj key kd vd) (Nat.le_trans (dcL_ge hrj) (dc2L_ge hrest))
          refine ⟨epj, xsj, key, b, rfl, hD8, kv_keys ra8 s8.gh, key_ok r7' eky s8.gh, by rw [kv_len ra8]; omega, fun ep' => ⟨G8, ep', DN.storedN xsj key b z, putKV aj key kd vd, st8.updN hD0 hG8 (OwnN.dk hD8), gg6.trans (s7.gg.trans s8.gg), upd_same, hG8, kv_stored ra8 eky r7' r8, by rw [hrj]; exact hrest⟩⟩
      · rw [List.drop_of_length_le (by omega)] at hrj
        have hrj : dc2L bb cc it1 vs1 bb1 cc1 kk vv (wipeE ρ vs) (items.drop (i + 1)) aj = some kvs := hrj
        exact .inl ⟨hJ1.stop Hj Gj j True.intro ggj stj.gh (by omega), Gj, epj, xsj, aj, stj, hDj, hGj, raj, hrj⟩
  · rw [List.drop_of_length_le (by omega)] at hr
    cases hr
    exact .inl ⟨hJ.stop Hc Gc i st.same st.gg st.gh (by omega), q _ _ _ ((s1.trans st).shut (s1.same.free hD0) hG hD) (Rp.dic upd_same (ra.mono (same_new hG)))⟩
end PF
namespace PF
open PySem PySem.Spec PyProof.Rows L2 RZ
section
variable {k : Nat} {r : Rec} {Γ : Ctx} {X : Cx} {e : Expr} {f : Den} {b : Bool} {pos p : Pos}
def ownOf (N : List Str) (scope : Scope) : List (Str × Nat) := scope.names.filterMap fun y => match y.2 with
  | .local => (slotOf N y.1).map fun i => (y.1, i)
  | .cell => (slotOf N y.1).map fun i => (y.1, i)
  | _ => none
def Ctx.in (Γ : Ctx) (scope : Scope) : Ctx := { Γ with sc := relS scope Γ.sc, blk := some scope }
theorem XOk.inn (ok : XOk k Γ X) (scope : Scope) (s : Shared) (H : Hp) (C : Addr) (cl : List (Str × Addr)) (fp : List Addr) : XOk k (Γ.in scope) (X.blk s H scope (compEnvC scope cl C X.env) fp) where
  N := ok.N
  nd := ok.nd
  sc := by
    show relS scope X.env.scope = relS scope Γ.sc
    rw [ok.sc]
  calm := ok.calm
  room := ok.room
  xe := rfl
  fn := fun x h => by
    have h' : (scope.names.lookup x == some .cell || (relS scope Γ.sc).names.lookup x == some .local) = true := h
    rw [Bool.or_eq_true] at h'
    rcases h' with h' | h'
    · exact .inl h'
    · refine .inr ?_
      show (relS scope X.env.scope).names.lookup x = some .local
      rw [ok.sc]
      exact beq_iff_eq.mp h'
  fns := ok.fns
  fks := ok.fks
  lks := ok.lks
  blt := ok.blt
  gls := ok.gls
  lamF := fun _ z => nomatch z
def cIfs (r : Rec) (Γ : Ctx) : List Expr → Option (Env → Option Bool)
  | [] => some fun _ => some true
  | [c] => if isIf c = false then (cF r Γ c).map dT else none
  | _ => none
theorem ifs_snd (hr : Snd k r) (ok : XOk k Γ X) {ifs : List Expr} {cc : Env → Option Bool} (h : cIfs r Γ ifs = some cc) : PTs X ifs (tT X.K cc) := by
  unfold cIfs at h
  split at h
  · cases h
    exact ⟨fun pins s σ H Q I ⟨H0, G0, G, ρ, b, ok, hf, q⟩ => by
      cases hf
      exact pts_nil.run pins s σ H Q I (q H G (Step.refl ok.gh))⟩
  · obtain ⟨hi, h⟩ := ite_some h
    obtain ⟨g, h1, h2⟩ := map_some h
    cases h2
    exact pts_one ((cF_snd hr h1 ok).2 hi)
  · cases h
theorem fold_ok {c : Expr} (h : isSet c = false) (env : PySem.Env) : ∀ x, foldedSetIterable c env x = pure x := fun x => by
  cases c <;> first | rfl | (exact absurd h (by simp [isSet]))
structure CP where
  own : List (Str × Nat)
  it : Env → Option (List D)
  ts : List Nat
  bb : D → Env → Option Env
  cc : Env → Option Bool
  ee : Den
def cParts (r : Rec) (Γ : Ctx) (bw : Bool) (elt tg iter : Expr) (ifs : List Expr) (scope : Scope) : Option CP :=
  if blkC Γ.N Γ.sc scope (ownOf Γ.N scope) = true ∧ isSet iter = false then
    (cIt r Γ bw tg iter).bind fun it => (cTg (Γ.in scope) 4 tg).bind fun tb =>
      if tb.1.all (fun t => decide (t ∈ (ownOf Γ.N scope).map (·.2))) = true then
        (cIfs r (Γ.in scope) ifs).bind fun cc => (cF r (Γ.in scope) elt).map fun ee => ⟨ownOf Γ.N scope, it, tb.1, tb.2, cc, ee⟩
      else none
  else none
structure CP2 where
  own : List (Str × Nat)
  it : Env → Option (List D)
  ts : List Nat
  bb : D → Env → Option Env
  cc : Env → Option Bool
  it1 : Env → Option (List D)
  ts1 : List Nat
  bb1 : D → Env → Option Env
  cc1 : Env → Option Bool
  ee : Den
def CP2.den (P : CP2) : Den := dComp2 P.it (P.own.map (·.2)) P.bb P.cc P.it1 P.ts1 P.bb1 P.cc1 P.ee
def cParts2 (r : Rec) (Γ : Ctx) (elt tg iter : Expr) (ifs : List Expr) (tg1 iter1 : Expr) (ifs1 : List Expr) (scope : Scope) : Option CP2 :=
  if blkC Γ.N Γ.sc scope (ownOf Γ.N scope) = true ∧ isSet iter = false ∧ isSet iter1 = false then
    (cIt r Γ true tg iter).bind fun it => (cTg (Γ.in scope) 4 tg).bind fun tb => (cTg (Γ.in scope) 4 tg1).bind fun tb1 =>
      if tb.1.all (fun t => decide (t ∈ (ownOf Γ.N scope).map (·.2))) = true ∧ tb1.1.all (fun t => decide (t ∈ (ownOf Γ.N scope).map (·.2))) = true then
        (cIfs r (Γ.in scope) ifs).bind fun cc => (cIt r (Γ.in scope) false tg1 iter1).bind fun it1 => (cIfs r (Γ.in scope) ifs1).bind fun cc1 => (cF r (Γ.in scope) elt).map fun ee => ⟨ownOf Γ.N scope, it, tb.1, tb.2, cc, it1, tb1.1, tb1.2, cc1, ee⟩
      else none
  else none
def cComp (r : Rec) (Γ : Ctx) (elt : Expr) (gens : List Comprehension) (scope : Scope) : Option (Den × Bool) := match gens with
  | [⟨tg, iter, ifs, 0⟩] => (cParts r Γ true elt tg iter ifs scope).map fun P => (dComp P.it (P.own.map (·.2)) P.bb P.cc P.ee, true)
  | [⟨tg, iter, ifs, 0⟩, ⟨tg1, iter1, ifs1, 0⟩] => (cParts2 r Γ elt tg iter ifs tg1 iter1 ifs1 scope).map fun P => (P.den, true)
  | _ => none
structure PartsOk2 (X : Cx) (elt tg iter : Expr) (ifs : List Expr) (tg1 iter1 : Expr) (ifs1 : List Expr) (scope : Scope) (P : CP2) : Prop where
  blk : BlkOk X.N X.env.scope scope P.own
  it : PI X tg iter (tI (isTup tg) X.K .bw P.it)
  ts : ∀ t ∈ P.ts, t ∈ P.own.map (·.2)
  ts1 : ∀ t ∈ P.ts1, t ∈ P.own.map (·.2)
  tg : ∀ (s : Shared) (H : Hp) (C : Addr) (cl : List (Str × Addr)) (fp : List Addr), PG (X.blk s H scope (compEnvC scope cl C X.env) fp) tg (tGo (isTup tg) X.K P.ts P.bb)
  ifs : ∀ (s : Shared) (H : Hp) (C : Addr) (cl : List (Str × Addr)) (fp : List Addr), PTs (X.blk s H scope (compEnvC scope cl C X.env) fp) ifs (tT X.K P.cc)
  it1 : ∀ (s : Shared) (H : Hp) (C : Addr) (cl : List (Str × Addr)) (fp : List Addr), PI (X.blk s H scope (compEnvC scope cl C X.env) fp) tg1 iter1 (tI (isTup tg1) X.K .fz P.it1)
  tg1 : ∀ (s : Shared) (H : Hp) (C : Addr) (cl : List (Str × Addr)) (fp : List Addr), PG (X.blk s H scope (compEnvC scope cl C X.env) fp) tg1 (tGo (isTup tg1) X.K P.ts1 P.bb1)
  ifs1 : ∀ (s : Shared) (H : Hp) (C : Addr) (cl : List (Str × Addr)) (fp : List Addr), PTs (X.blk s H scope (compEnvC scope cl C X.env) fp) ifs1 (tT X.K P.cc1)
  elt : ∀ (s : Shared) (H : Hp) (C : Addr) (cl : List (Str × Addr)) (fp : List Addr), PE (X.blk s H scope (compEnvC scope cl C X.env) fp) elt (tE X.K .fz P.ee)
  set : ∀ x, foldedSetIterable iter X.env x = pure x
  set1 : ∀ env x, foldedSetIterable iter1 env x = pure x
structure PartsOk (X : Cx) (m : Md) (elt tg iter : Expr) (ifs : List Expr) (scope : Scope) (P : CP) : Prop where
  blk : BlkOk X.N X.env.scope scope P.own
  it : PI X tg iter (tI (isTup tg) X.K m P.it)
  ts : ∀ t ∈ P.ts, t ∈ P.own.map (·.2)
  tg : ∀ (s : Shared) (H : Hp) (C : Addr) (cl : List (Str × Addr)) (fp : List Addr), PG (X.blk s H scope (compEnvC scope cl C X.env) fp) tg (tGo (isTup tg) X.K P.ts P.bb)
  ifs : ∀ (s : Shared) (H : Hp) (C : Addr) (cl : List (Str × Addr)) (fp : List Addr), PTs (X.blk s H scope (compEnvC scope cl C X.env) fp) ifs (tT X.K P.cc)
  elt : ∀ (s : Shared) (H : Hp) (C : Addr) (cl : List (Str × Addr)) (fp : List Addr), PE (X.blk s H scope (compEnvC scope cl C X.env) fp) elt (tE X.K .fz P.ee)
  set : ∀ x, foldedSetIterable iter X.env x = pure x
theorem parts_snd {bw : Bool} {elt tg iter : Expr} {ifs : List Expr} {scope : Scope} {P : CP} (hr : Snd k r) (h : cParts r Γ bw elt tg iter ifs scope = some P) (ok : XOk k Γ X) : PartsOk X (mdOf bw) elt tg iter ifs scope P := by
  obtain ⟨⟨hb, hs⟩, h⟩ := ite_some h
  obtain ⟨it, h1, h⟩ := bind_some h
  obtain ⟨⟨ts, bb⟩, h2, h⟩ := bind_some h
  obtain ⟨ht, h⟩ := ite_some h
  obtain ⟨cc, h3, h⟩ := bind_some h
  obtain ⟨ee, h4, h⟩ := map_some h
  cases h
  exact { blk := blkOk_by (by rw [ok.N, ok.sc]; exact hb), it := it_snd hr h1 ok, ts := fun t hm => of_decide_eq_true (List.all_eq_true.mp ht t hm),
          tg := fun s H C cl fp => tg_snd (ok.inn scope s H C cl fp) 4 h2, ifs := fun s H C cl fp => ifs_snd hr (ok.inn scope s H C cl fp) h3,
          elt := fun s H C cl fp => (cF_snd hr h4 (ok.inn scope s H C cl fp)).1, set := fold_ok hs _ }
theorem parts2_snd {elt tg iter tg1 iter1 : Expr} {ifs ifs1 : List Expr} {scope : Scope} {P : CP2} (hr : Snd k r) (h : cParts2 r Γ elt tg iter ifs tg1 iter1 ifs1 scope = some P) (ok : XOk k Γ X) : PartsOk2 X elt tg iter ifs tg1 iter1 ifs1 scope P := by
  obtain ⟨⟨hb, hs, hs1⟩, h⟩ := ite_some h
  obtain ⟨it, h1, h⟩ := bind_some h
  obtain ⟨⟨ts, bb⟩, h2, h⟩ := bind_some h
  obtain ⟨⟨ts1, bb1⟩, h2', h⟩ := bind_some h
  obtain ⟨⟨ht, ht1⟩, h⟩ := ite_some h
  obtain ⟨cc, h3, h⟩ := bind_some h
  obtain ⟨it1, h5, h⟩ := bind_some h
  obtain ⟨cc1, h6, h⟩ := bind_some h
  obtain ⟨ee, h4, h⟩ := map_some h
  cases h
  exact { blk := blkOk_by (by rw [ok.N, ok.sc]; exact hb), it := it_snd (bw := true) hr h1 ok, ts := fun t hm => of_decide_eq_true (List.all_eq_true.mp ht t hm), ts1 := fun t hm => of_decide_eq_true (List.all_eq_true.mp ht1 t hm),
          tg := fun s H C cl fp => tg_snd (ok.inn scope s H C cl fp) 4 h2, ifs := fun s H C cl fp => ifs_snd hr (ok.inn scope s H C cl fp) h3,
          it1 := fun s H C cl fp => it_snd (bw := false) hr h5 (ok.inn scope s H C cl fp), tg1 := fun s H C cl fp => tg_snd (ok.inn scope s H C cl fp) 4 h2', ifs1 := fun s H C cl fp => ifs_snd hr (ok.inn scope s H C cl fp) h6,
          elt := fun s H C cl fp => (cF_snd hr h4 (ok.inn scope s H C cl fp)).1, set := fold_ok hs _, set1 := fun env => fold_ok hs1 env }
theorem comp_snd {elt : Expr} {gens : List Comprehension} {scope : Scope} (hr : Snd k r) (h : cComp r Γ elt gens scope = some (f, b)) (ok : XOk k Γ X) : PE X (.ListComp elt gens scope pos) (tE X.K .fz f) ∧ (b = true → PE X (.ListComp elt gens scope pos) (tE X.K .ow f)) ∧ (isIf (.ListComp elt gens scope pos) = false → PT X (.ListComp elt gens scope pos) (tT X.K (dT f))) := by
  unfold cComp at h
  split at h
  · obtain ⟨P, h1, h2⟩ := map_some h
    cases h2
    have q := parts_snd hr h1 ok
    exact snd_owV (e_comp ok.calm ok.nd q.it q.blk q.ts q.tg q.ifs q.elt q.set) (fun _ => rfl)
  · obtain ⟨P, h1, h2⟩ := map_some h
    cases h2
    have q := parts2_snd hr h1 ok
    exact snd_owV (peW (pe_lc2 ok.calm ok.nd q.it q.blk q.ts1 q.tg q.ifs q.it1 q.tg1 q.ifs1 q.elt q.set q.set1) fun σ H Q h => comp2_read q.ts (fun _ h => h) h) (fun _ => rfl)
  · cases h
structure CPD where
  own : List (Str × Nat)
  it : Env → Option (List D)
  ts : List Nat
  bb : D → Env → Option Env
  cc : Env → Option Bool
  kk : Den
  vv : Den
def CPD.den (P : CPD) : Den := dDComp P.it (P.own.map (·.2)) P.bb P.cc P.kk P.vv
def cPartsD (r : Rec) (Γ : Ctx) (kx vx tg iter : Expr) (ifs : List Expr) (scope : Scope) : Option CPD :=
  if blkC Γ.N Γ.sc scope (ownOf Γ.N scope) = true ∧ isSet iter = false then
    (cIt r Γ true tg iter).bind fun it => (cTg (Γ.in scope) 4 tg).bind fun tb =>
      if tb.1.all (fun t => decide (t ∈ (ownOf Γ.N scope).map (·.2))) = true then
        (cIfs r (Γ.in scope) ifs).bind fun cc => (cF r (Γ.in scope) kx).bind fun kk => (cF r (Γ.in scope) vx).map fun vv => ⟨ownOf Γ.N scope, it, tb.1, tb.2, cc, kk, vv⟩
      else none
  else none
theorem partsD_snd {kx vx tg iter : Expr} {ifs : List Expr} {scope : Scope} {P : CPD} (hr : Snd k r) (h : cPartsD r Γ kx vx tg iter ifs scope = some P) (ok : XOk k Γ X) : PtsD (isTup tg) X kx vx tg iter ifs scope P.own P.it P.ts P.bb P.cc P.kk P.vv ∧ ∀ t ∈ P.ts, t ∈ P.own.map (·.2) := by
  obtain ⟨⟨hb, hs⟩, h⟩ := ite_some h
  obtain ⟨it, h1, h⟩ := bind_some h
  obtain ⟨⟨ts, bb⟩, h2, h⟩ := bind_some h
  obtain ⟨ht, h⟩ := ite_some h
  obtain ⟨cc, h3, h⟩ := bind_some h
  obtain ⟨kk, h4, h⟩ := bind_some h
  obtain ⟨vv, h5, h⟩ := map_some h
  cases h
  refine ⟨?_, fun t hm => of_decide_eq_true (List.all_eq_true.mp ht t hm)⟩
  exact { calm := ok.calm, nd := ok.nd, it := it_snd (bw := true) hr h1 ok, ok := blkOk_by (by rw [ok.N, ok.sc]; exact hb), tg := fun s H C cl fp => tg_snd (ok.inn scope s H C cl fp) 4 h2, ts := fun s H C cl fp => ifs_snd hr (ok.inn scope s H C cl fp) h3,
          ky := fun s H C cl fp => (cF_snd hr h4 (ok.inn scope s H C cl fp)).1, vl := fun s H C cl fp => (cF_snd hr h5 (ok.inn scope s H C cl fp)).1, st := fold_ok hs _, hu := by have := ok.u65; omega }
structure CPD2 where
  own : List (Str × Nat)
  it : Env → Option (List D)
  ts : List Nat
  bb : D → Env → Option Env
  cc : Env → Option Bool
  it1 : Env → Option (List D)
  ts1 : List Nat
  bb1 : D → Env → Option Env
  cc1 : Env → Option Bool
  kk : Den
  vv : Den
def CPD2.den (P : CPD2) : Den := dDComp2 P.it (P.own.map (·.2)) P.bb P.cc P.it1 P.ts1 P.bb1 P.cc1 P.kk P.vv
def cPartsD2 (r : Rec) (Γ : Ctx) (kx vx tg iter : Expr) (ifs : List Expr) (tg1 iter1 : Expr) (ifs1 : List Expr) (scope : Scope) : Option CPD2 :=
  if blkC Γ.N Γ.sc scope (ownOf Γ.N scope) = true ∧ isSet iter = false ∧ isSet iter1 = false then
    (cIt r Γ true tg iter).bind fun it => (cTg (Γ.in scope) 4 tg).bind fun tb => (cTg (Γ.in scope) 4 tg1).bind fun tb1 =>
      if tb.1.all (fun t => decide (t ∈ (ownOf Γ.N scope).map (·.2))) = true ∧ tb1.1.all (fun t => decide (t ∈ (ownOf Γ.N scope).map (·.2))) = true then
        (cIfs r (Γ.in scope) ifs).bind fun cc => (cIt r (Γ.in scope) false tg1 iter1).bind fun it1 => (cIfs r (Γ.in scope) ifs1).bind fun cc1 => (cF r (Γ.in scope) kx).bind fun kk => (cF r (Γ.in scope) vx).map fun vv => ⟨ownOf Γ.N scope, it, tb.1, tb.2, cc, it1, tb1.1, tb1.2, cc1, kk, vv⟩
      else none
  else none
theorem partsD2_snd {kx vx tg iter tg1 iter1 : Expr} {ifs ifs1 : List Expr} {scope : Scope} {P : CPD2} (hr : Snd k r) (h : cPartsD2 r Γ kx vx tg iter ifs tg1 iter1 ifs1 scope = some P) (ok : XOk k Γ X) : PE X (.DictComp kx vx [⟨tg, iter, ifs, 0⟩, ⟨tg1, iter1, ifs1, 0⟩] scope pos) (tE X.K .fz P.den) := by
  obtain ⟨⟨hb, hs, hs1⟩, h⟩ := ite_some h
  obtain ⟨it, h1, h⟩ := bind_some h
  obtain ⟨⟨ts, bb⟩, h2, h⟩ := bind_some h
  obtain ⟨⟨ts1, bb1⟩, h2', h⟩ := bind_some h
  obtain ⟨⟨ht, ht1⟩, h⟩ := ite_some h
  obtain ⟨cc, h3, h⟩ := bind_some h
  obtain ⟨it1, h5, h⟩ := bind_some h
  obtain ⟨cc1, h6, h⟩ := bind_some h
  obtain ⟨kk, h4, h⟩ := bind_some h
  obtain ⟨vv, h7, h⟩ := map_some h
  cases h
  exact peW (SC.pe_d2 (by have := ok.u65; omega) ok.calm ok.nd (it_snd (bw := true) hr h1 ok) (blkOk_by (by rw [ok.N, ok.sc]; exact hb)) (fun t hm => of_decide_eq_true (List.all_eq_true.mp ht1 t hm))
    (fun s H C cl fp => tg_snd (ok.inn scope s H C cl fp) 4 h2) (fun s H C cl fp => ifs_snd hr (ok.inn scope s H C cl fp) h3) (fun s H C cl fp => it_snd (bw := false) hr h5 (ok.inn scope s H C cl fp))
    (fun s H C cl fp => tg_snd (ok.inn scope s H C cl fp) 4 h2') (fun s H C cl fp => ifs_snd hr (ok.inn scope s H C cl fp) h6) (fun s H C cl fp => (cF_snd hr h4 (ok.inn scope s H C cl fp)).1) (fun s H C cl fp => (cF_snd hr h7 (ok.inn scope s H C cl fp)).1) (fold_ok hs _) (fun env => fold_ok hs1 env))
    fun σ H Q h => dc2_read (fun t hm => of_decide_eq_true (List.all_eq_true.mp ht t hm)) (fun _ h => h) h
theorem den2_dic {P : CPD2} {ρ : Env} {d : D} (h : P.den ρ = some d) : ∃ kvs, d = dicD kvs := by
  obtain ⟨_, _, h⟩ := Option.bind_eq_some_iff.mp h
  obtain ⟨kvs, _, h⟩ := Option.bind_eq_some_iff.mp h
  obtain ⟨_, h⟩ := iteS h
  cases h
  exact ⟨kvs, rfl⟩
theorem den_dic {P : CPD} {ρ : Env} {d : D} (h : P.den ρ = some d) : ∃ kvs, d = dicD kvs := by
  obtain ⟨_, kvs, _, _, e⟩ := dComp_eq h
  exact ⟨kvs, e⟩
def metB (m : Str) : Option (D → D → Option D) := if m = "index" then some aIndex else if m = "count" then some aCount else none
def cMet (r : Rec) (Γ : Ctx) (x m : Str) (c : Expr) (apos pos : Pos) : Option (Den × Bool) := if (apos.endLine == pos.line) = true ∧ isStar c = false then (metB m).bind fun g => (cVar Γ x).bind fun i => (cB r Γ c).map fun f => (d2 g (dVarB i) f, true) else none
theorem met_snd {x m : Str} {c : Expr} {apos : Pos} (hr : Snd k r) (h : cMet r Γ x m c apos pos = some (f, b)) (ok : XOk k Γ X) : PE X (.Call (.Attribute (.Name x p) m apos) [c] [] pos) (tE X.K .fz f) ∧ (b = true → PE X (.Call (.Attribute (.Name x p) m apos) [c] [] pos) (tE X.K .ow f)) ∧ (isIf (.Call (.Attribute (.Name x p) m apos) [c] [] pos) = false → PT X (.Call (.Attribute (.Name x p) m apos) [c] [] pos) (tT X.K (dT f))) := by
  obtain ⟨⟨hl, hs⟩, h⟩ := ite_some h
  obtain ⟨g, hm, h⟩ := bind_some h
  obtain ⟨i, h1, h⟩ := bind_some h
  obtain ⟨fc, h2, h⟩ := map_some h
  cases h
  obtain ⟨v1, v2, v3, v4⟩ := ok.var h1
  unfold metB at hm
  split at hm
  · rename_i em
    subst em
    cases hm
    exact snd_owV (e_index ok.u65 ⟨v1, v2, v3, v4⟩ hl hs (cB_snd hr h2 ok)) (fun _ => rfl)
  · obtain ⟨em, hm⟩ := ite_some hm
    subst em
    cases hm
    exact snd_owV (e_count ok.u65 ⟨v1, v2, v3, v4⟩ hl hs (cB_snd hr h2 ok)) (fun _ => rfl)
def scOf (x : Str) (as : List Expr) (kws : List Keyword) : Option (Expr × Expr × Expr × List Expr × Scope) := if x = "len" then (match as, kws with
  | [.SetComp elt [⟨tg, iter, ifs, 0⟩] scope _], [] => some (elt, tg, iter, ifs, scope)
  | _, _ => none) else none
theorem scOf_eq {x : Str} {as : List Expr} {kws : List Keyword} {elt tg iter : Expr} {ifs : List Expr} {scope : Scope} (h : scOf x as kws = some (elt, tg, iter, ifs, scope)) : x = "len" ∧ kws = [] ∧ ∃ spos, as = [.SetComp elt [⟨tg, iter, ifs, 0⟩] scope spos] := by
  unfold scOf at h
  obtain ⟨hx, h⟩ := ite_some h
  split at h
  · cases h
    exact ⟨hx, rfl, _, rfl⟩
  · cases h
def sc2Of (x : Str) (as : List Expr) (kws : List Keyword) : Option (Expr × Expr × Expr × List Expr × Expr × Expr × List Expr × Scope) := if x = "len" then (match as, kws with
  | [.SetComp elt [⟨tg, iter, ifs, 0⟩, ⟨tg1, iter1, ifs1, 0⟩] scope _], [] => some (elt, tg, iter, ifs, tg1, iter1, ifs1, scope)
  | _, _ => none) else none
theorem sc2Of_eq {x : Str} {as : List Expr} {kws : List Keyword} {elt tg iter tg1 iter1 : Expr} {ifs ifs1 : List Expr} {scope : Scope} (h : sc2Of x as kws = some (elt, tg, iter, ifs, tg1, iter1, ifs1, scope)) : x = "len" ∧ kws = [] ∧ ∃ spos, as = [.SetComp elt [⟨tg, iter, ifs, 0⟩, ⟨tg1, iter1, ifs1, 0⟩] scope spos] := by
  unfold sc2Of at h
  obtain ⟨hx, h⟩ := ite_some h
  split at h
  · cases h
    exact ⟨hx, rfl, _, rfl⟩
  · cases h
def cFmts (r : Rec) (Γ : Ctx) : List Expr → Option (List (Str ⊕ Den))
  | [] => some []
  | .Constant (.str z) _ _ :: es => (cFmts r Γ es).map fun l => .inl z :: l
  | .FormattedValue e (-1) none _ :: es => (cB r Γ e).bind fun f => (cFmts r Γ es).map fun l => .inr f :: l
  | _ :: _ => none
theorem fmts_snd (hr : Snd k r) (ok : XOk k Γ X) : ∀ {es : List Expr} {l : List (Str ⊕ Den)}, cFmts r Γ es = some l → PJ X es (l.map (tPart X))
  | [], _, h => by cases h; exact .nil
  | e :: es, l, h => by
    unfold cFmts at h
    split at h
    · rename_i h0; cases h0
    · rename_i z j p es' h0
      cases h0
      obtain ⟨l', h1, h2⟩ := map_some h
      subst h2
      exact .cons pe_str (fmts_snd hr ok h1)
    · rename_i e' p es' h0
      cases h0
      obtain ⟨f, h1, h⟩ := bind_some h
      obtain ⟨l', h2, h3⟩ := map_some h
      subst h3
      exact .cons (pe_fmt (cB_snd hr h1 ok)) (fmts_snd hr ok h2)
    · cases h
def cJoin (r : Rec) (Γ : Ctx) (o c : Expr) (apos pos : Pos) : Option (Den × Bool) := if baseOk o = true ∧ isStar c = false ∧ (apos.endLine == pos.line) = true then (cB r Γ o).bind fun fo => (cB r Γ c).map fun fc => (d2 aJoin fo fc, true) else none
theorem join_snd {o c : Expr} {apos : Pos} (hr : Snd k r) (h : cJoin r Γ o c apos pos = some (f, b)) (ok : XOk k Γ X) : PE X (.Call (.Attribute o "join" apos) [c] [] pos) (tE X.K .fz f) ∧ (b = true → PE X (.Call (.Attribute o "join" apos) [c] [] pos) (tE X.K .ow f)) ∧ (isIf (.Call (.Attribute o "join" apos) [c] [] pos) = false → PT X (.Call (.Attribute o "join" apos) [c] [] pos) (tT X.K (dT f))) := by
  obtain ⟨⟨hb, hs, hl⟩, h⟩ := ite_some h
  obtain ⟨fo, h1, h⟩ := bind_some h
  obtain ⟨fc, h2, h3⟩ := map_some h
  cases h3
  exact snd_owV (e_join hb hs hl (cB_snd hr h1 ok) (cB_snd hr h2 ok)) (fun _ => rfl)
def cSplit (r : Rec) (Γ : Ctx) (o c : Expr) (apos pos : Pos) : Option (Den × Bool) := if baseOk o = true ∧ isStar c = false ∧ (apos.endLine == pos.line) = true then (cB r Γ o).bind fun fo => (cB r Γ c).map fun fc => (d2 aSplit fo fc, true) else none
theorem split_snd {o c : Expr} {apos : Pos} (hr : Snd k r) (h : cSplit r Γ o c apos pos = some (f, b)) (ok : XOk k Γ X) : PE X (.Call (.Attribute o "split" apos) [c] [] pos) (tE X.K .fz f) ∧ (b = true → PE X (.Call (.Attribute o "split" apos) [c] [] pos) (tE X.K .ow f)) ∧ (isIf (.Call (.Attribute o "split" apos) [c] [] pos) = false → PT X (.Call (.Attribute o "split" apos) [c] [] pos) (tT X.K (dT f))) := by
  obtain ⟨⟨hb, hs, hl⟩, h⟩ := ite_some h
  obtain ⟨fo, h1, h⟩ := bind_some h
  obtain ⟨fc, h2, h3⟩ := map_some h
  cases h3
  exact snd_owV (e_split hb hs hl (cB_snd hr h1 ok) (cB_snd hr h2 ok)) (fun _ => rfl)
def stepE (r : Rec) : Rec := fun Γ e => match e with
  | .Name x _ => cName Γ x
  | .Constant c _ _ => cConst c
  | .BinOp a op c _ => cBin r Γ a op c
  | .UnaryOp op a _ => cUn r Γ op a
  | .BoolOp op vs _ => (cBools r Γ op vs).map fun f => (f, false)
  | .Compare a ops cs _ => cCmp r Γ a ops cs
  | .IfExp c a d _ => if isIf c = false then (cF r Γ c).bind fun fc => (r Γ a).bind fun fa => (r Γ d).map fun fd => (dIf fc fa.1 fd.1, fa.2 && fd.2) else none
  | .Tuple es _ _ => (cArgs r Γ es).bind fun fs => if fs.length ≤ 1000 then some (dTup fs, true) else none
  | .List es _ => (cArgs r Γ es).bind fun fs => if fs.length ≤ 1000 then some (dLst fs, true) else none
  | .Subscript a c _ => cSub r Γ a c
  | .Call (.Name x _) as kws _ => match scOf x as kws with
    | some (elt, tg, iter, ifs, scope) => if glB Γ.sc "len" = true then (cParts r Γ true elt tg iter ifs scope).map fun P => (d1 aLenK (dComp P.it (P.own.map (·.2)) P.bb P.cc P.ee), true) else none
    | none => match sc2Of x as kws with
      | some (elt, tg, iter, ifs, tg1, iter1, ifs1, scope) => if glB Γ.sc "len" = true then (cParts2 r Γ elt tg iter ifs tg1 iter1 ifs1 scope).map fun P => (d1 aLenI P.den, true) else none
      | none => cCallA r Γ x as kws
  | .Call (.Attribute o m apos) [c] [] pos => if m = "join" then cJoin r Γ o c apos pos else if m = "split" then cSplit r Γ o c apos pos else match o with
    | .Name x _ => cMet r Γ x m c apos pos
    | _ => none
  | .Call (.Attribute o m apos) [] [] pos => if m = "isdigit" ∧ baseOk o = true ∧ (apos.endLine == pos.line) = true then (cB r Γ o).map fun fo => (d1 aIsdigit fo, true) else none
  | .JoinedStr (v1 :: v2 :: rest) _ => (cFmts r Γ (v1 :: v2 :: rest)).map fun l => (dFmt l, true)
  | .ListComp elt gens scope _ => cComp r Γ elt gens scope
  | .DictComp kx vx [⟨tg, iter, ifs, 0⟩] scope _ => (cPartsD r Γ kx vx tg iter ifs scope).map fun P => (P.den, true)
  | .DictComp kx vx [⟨tg, iter, ifs, 0⟩, ⟨tg1, iter1, ifs1, 0⟩] scope _ => (cPartsD2 r Γ kx vx tg iter ifs tg1 iter1 ifs1 scope).map fun P => (P.den, true)
  | _ => none
theorem step_snd (hr : Snd k r) : Snd k (stepE r) := by
  intro Γ e f b h X ok
  unfold stepE at h
  split at h
  · exact name_snd h ok
  · rename_i c _ _
    cases c with
    | int i => cases h; exact snd_owV e_int (fun _ => rfl)
    | bool i => cases h; exact snd_owV e_bool (fun _ => rfl)
    | str i => cases h; exact snd_owV e_str (fun _ => rfl)
    | none => cases h; exact snd_owV e_none (fun _ => rfl)
    | _ => cases h
  · exact bin_snd hr h ok
  · exact un_snd hr h ok
  · obtain ⟨g, h1, h2⟩ := map_some h
    cases h2
    obtain ⟨q1, q2⟩ := bools_snd hr ok h1
    exact ⟨q1, fun z => absurd z Bool.false_ne_true, fun _ => q2.pt⟩
  · exact cmp_snd hr h ok
  · obtain ⟨hi, h⟩ := ite_some h
    obtain ⟨fc, h1, h⟩ := bind_some h
    obtain ⟨⟨fa, oa⟩, h2, h⟩ := bind_some h
    obtain ⟨⟨fd, od⟩, h3, h⟩ := map_some h
    cases h
    refine ⟨e_if ((cF_snd hr h1 ok).2 hi) (hr _ _ _ _ h2 X ok).1 (hr _ _ _ _ h3 X ok).1, fun z => ?_, fun z => absurd z (by simp [isIf])⟩
    rw [Bool.and_eq_true] at z
    exact e_ifO ((cF_snd hr h1 ok).2 hi) ((hr _ _ _ _ h2 X ok).2.1 z.1) ((hr _ _ _ _ h3 X ok).2.1 z.2)
  · obtain ⟨fs, h1, h⟩ := bind_some h
    obtain ⟨hl, h⟩ := ite_some h
    cases h
    exact snd_owV (e_tup hl (args_snd hr ok h1).1) (fun _ => rfl)
  · obtain ⟨fs, h1, h⟩ := bind_some h
    obtain ⟨hl, h⟩ := ite_some h
    cases h
    exact snd_owV (e_lst hl (args_snd hr ok h1).1) (fun _ => rfl)
  · exact sub_snd hr h ok
  · split at h
    · rename_i e
      obtain ⟨rfl, rfl, spos, rfl⟩ := scOf_eq e
      obtain ⟨hgl, h⟩ := ite_some h
      obtain ⟨P, h1, h2⟩ := map_some h
      cases h2
      have q := parts_snd hr h1 ok
      obtain ⟨g1, g2, g3⟩ := ok.gl hgl
      exact snd_owV (e_lenSC ok.calm (by have := ok.room.un; omega) g1 (ok.blt _ (by decide +kernel)) ok.nd q.it q.blk q.ts q.tg q.ifs q.elt q.set) (fun _ => rfl)
    · split at h
      · rename_i e
        obtain ⟨rfl, rfl, spos, rfl⟩ := sc2Of_eq e
        obtain ⟨hgl, h⟩ := ite_some h
        obtain ⟨P, h1, h2⟩ := map_some h
        cases h2
        have q := parts2_snd hr h1 ok
        obtain ⟨g1, g2, g3⟩ := ok.gl hgl
        exact snd_owV (e_lenSC2 ok.calm g1 (ok.blt _ (by decide +kernel)) ok.nd q.it q.blk q.ts q.ts1 q.tg q.ifs q.it1 q.tg1 q.ifs1 q.elt q.set q.set1) (fun _ => rfl)
      · exact callA_snd hr h ok
  · split at h
    · rename_i em
      subst em
      exact join_snd hr h ok
    · split at h
      · rename_i em
        subst em
        exact split_snd hr h ok
      · split at h
        · exact met_snd hr h ok
        · cases h
  · obtain ⟨⟨em, hb, hl⟩, h'⟩ := ite_some h
    clear h
    subst em
    obtain ⟨fo, h1, h2⟩ := map_some h'
    cases h2
    exact snd_owV (e_isdigit hb hl (cB_snd hr h1 ok)) (fun _ => rfl)
  · obtain ⟨l, h1, h2⟩ := map_some h
    cases h2
    exact snd_owV (e_fmt (fmts_snd hr ok h1)) (fun _ => rfl)
  · exact comp_snd hr h ok
  · obtain ⟨P, h1, h2⟩ := map_some h
    cases h2
    obtain ⟨q1, q2⟩ := partsD_snd hr h1 ok
    exact snd_owV (ow_dic (fun ρ d h => den_dic h) (e_dcomp q1 q2)) (fun _ => rfl)
  · obtain ⟨P, h1, h2⟩ := map_some h
    cases h2
    exact snd_owV (ow_dic (fun ρ d h => den2_dic h) (partsD2_snd hr h1 ok)) (fun _ => rfl)
  · cases h
def cE : Nat → Rec
  | 0 => fun _ _ => none
  | n + 1 => stepE (cE n)
theorem cE_snd (k : Nat) : ∀ n, Snd k (cE n)
  | 0 => fun Γ e f b h => by cases h
  | n + 1 => step_snd (cE_snd k n)
def isNm : Expr → Bool
  | .Name .. => true
  | _ => false
def dicNm (Γ : Ctx) : Expr → List Nat
  | .Name x _ => match slotOf Γ.N x with | some i => if i ∈ Γ.dic then [i] else [] | none => []
  | _ => []
def escE (Γ : Ctx) : Nat → Expr → List Nat
  | 0, _ => []
  | n + 1, e => let B := fun c => if isNm c then dicNm Γ c else escE Γ n c
    let Bs := fun c => if isNm c then [] else escE Γ n c
    match e with
    | .Name x _ => match slotOf Γ.N x with | some i => if i ∈ Γ.own ∨ i ∈ Γ.dic then [i] else [] | none => []
    | .BinOp a _ c _ => B a ++ B c
    | .UnaryOp _ a _ => B a
    | .BoolOp _ vs _ => vs.flatMap (escE Γ n)
    | .Compare a _ cs _ => B a ++ cs.flatMap Bs
    | .IfExp c a d _ => escE Γ n c ++ escE Γ n a ++ escE Γ n d
    | .Tuple es _ _ => es.flatMap (escE Γ n)
    | .List es _ => es.flatMap (escE Γ n)
    | .Subscript a c _ => Bs a ++ B c
    | .Slice a c d _ => (a.map B).getD [] ++ (c.map B).getD [] ++ (d.map B).getD []
    | .Call (.Name x _) as _ _ => if x = "len" then as.flatMap Bs else if x ∈ bltNames then as.flatMap B else (match Γ.lks.lookup x with | some (m, _) => (as.zip m).flatMap fun p => if p.2 = true then Bs p.1 else escE Γ n p.1 | none => as.flatMap (escE Γ n))
    | .Call (.Attribute (.Name _ _) _ _) [c] _ _ => B c
    | .Dict ks vs _ => ks.flatMap (fun o => match o with | some c => escE Γ n c | none => []) ++ vs.flatMap (escE Γ n)
    | .ListComp elt gens _ _ => escE Γ n elt ++ gens.flatMap fun g => Bs g.iter ++ g.ifs.flatMap (escE Γ n)
    | .DictComp kx vx gens _ _ => escE Γ n kx ++ escE Γ n vx ++ gens.flatMap fun g => Bs g.iter ++ g.ifs.flatMap (escE Γ n)
    | _ => []
end
def escI (Γ : Ctx) (e : Expr) : List Nat := match callOf e with
  | some (x, as) => if x = "enumerate" ∨ x = "zip" then as.flatMap (escE Γ 12) else escE Γ 12 e
  | none => escE Γ 12 e
abbrev RecS := Ctx → Stmt → Option DenS
def SndS (k : Nat) (rs : RecS) : Prop := ∀ Γ st F, rs Γ st = some F → ∀ X, XOk k Γ X → PS X st (tS X.K F)
def cSs (rs : RecS) (Γ : Ctx) : List Stmt → Option DenS
  | [] => some fun ρ => some (.next ρ)
  | [s] => rs Γ s
  | s :: t :: r => (rs Γ s).bind fun F => (cSs rs Γ (t :: r)).map fun F' => dSeq F F'
section
variable {k : Nat} {r : Rec} {rs : RecS} {Γ : Ctx} {X : Cx} {pos p p' : Pos}
theorem ss_snd (hr : SndS k rs) (ok : XOk k Γ X) : ∀ {sts : List Stmt} {F : DenS}, cSs rs Γ sts = some F → PSs X sts (tS X.K F)
  | [], _, h => by cases h; exact ss_nil
  | [s], F, h => ss_one (hr _ _ _ h X ok)
  | s :: t :: rest, _, h => by
    obtain ⟨F1, h1, h⟩ := bind_some h
    obtain ⟨F2, h2, h⟩ := map_some h
    cases h
    exact ss_cons (hr _ _ _ h1 X ok) (ss_snd hr ok h2)
def cMeth (r : Rec) (Γ : Ctx) (x m : Str) (e : Expr) (apos pos : Pos) : Option DenS := if (apos.endLine == pos.line) = true ∧ isStar e = false then
    (cVar Γ x).bind fun i => if m = "pop" then (if i ∈ Γ.dic then (cF r Γ e).map fun f => (fun ρ => dPopN i f (fzE ρ (escE Γ 12 e))) else none)
      else if m = "append" then (cF r Γ e).map fun f => (fun ρ => dAppend i f (fzE ρ (escE Γ 12 e)))
      else if m = "extend" then (r Γ e).bind fun fb => if fb.2 = true then some (fun ρ => dExtend i fb.1 (fzE ρ (escE Γ 12 e))) else none
      else if m = "remove" then (cB r Γ e).map fun f => dRemove i f
      else none
  else none
theorem meth_snd {x m : Str} {e : Expr} {apos : Pos} {F : DenS} (hr : Snd k r) (h : cMeth r Γ x m e apos pos = some F) (ok : XOk k Γ X) : PS X (.Expr (.Call (.Attribute (.Name x p) m apos) [e] [] pos) p') (tS X.K F) := by
  replace h := ite_some h
  obtain ⟨⟨hl, hs⟩, h⟩ := h
  replace h := bind_some h
  obtain ⟨i, h1, h⟩ := h
  obtain ⟨v1, v2, v3, v4⟩ := ok.var h1
  split at h
  · rename_i em
    subst em
    obtain ⟨_, h⟩ := ite_some h
    obtain ⟨f, h2, h3⟩ := map_some h
    cases h3
    exact s_fz _ (s_popN ok.u65 ⟨v1, v2, v3, v4⟩ hl hs (cF_snd hr h2 ok).1)
  split at h
  · rename_i em
    subst em
    obtain ⟨f, h2, h3⟩ := map_some h
    cases h3
    exact s_fz _ (s_append v1 v2 v3 v4 hl hs (cF_snd hr h2 ok).1)
  split at h
  · rename_i em
    subst em
    obtain ⟨⟨f, b⟩, h2, h⟩ := bind_some h
    obtain ⟨hb, h⟩ := ite_some h
    cases h
    exact s_fz _ (s_extend v1 v2 v3 v4 hl hs ((hr _ _ _ _ h2 X ok).2.1 hb))
  · obtain ⟨em, h⟩ := ite_some h
    subst em
    obtain ⟨f, h2, h3⟩ := map_some h
    cases h3
    exact s_remove ok.calm v1 v2 v3 v4 hl hs (cB_snd hr h2 ok)
def tupB : Expr → Bool
  | .Tuple .. => true
  | _ => false
theorem stores_none {tg e : Expr} (h : tupB e = false) (env : PySem.Env) : swappedStores [tg] e env = pure none := by
  cases e <;> first | (cases tg <;> rfl) | (exact absurd h (by simp [tupB]))
def popOf : Expr → Option (Str × Pos × Pos × Pos)
  | .Call (.Attribute (.Name x p) m apos) [] [] pos => if m = "pop" then some (x, p, apos, pos) else none
  | _ => none
theorem popOf_eq {e : Expr} {x : Str} {p apos pos : Pos} (h : popOf e = some (x, p, apos, pos)) : e = .Call (.Attribute (.Name x p) "pop" apos) [] [] pos := by
  unfold popOf at h
  split at h
  · obtain ⟨em, h⟩ := ite_some h
    subst em
    cases h
    rfl
  · cases h
def cPop (Γ : Ctx) (tg e : Expr) : Option DenS := (popOf e).bind fun q => if (q.2.2.1.endLine == q.2.2.2.line) = true ∧ isStar tg = false then (cVar Γ q.1).bind fun i => (cTg Γ 4 tg).map fun tb => dPop i tb.2 else none
theorem pop_snd {tg e : Expr} {F : DenS} (h : cPop Γ tg e = some F) (ok : XOk k Γ X) : PS X (.Assign [tg] e p') (tS X.K F) := by
  obtain ⟨⟨x, p, apos, pos⟩, h1, h⟩ := bind_some h
  obtain ⟨⟨hl, hs⟩, h⟩ := ite_some h
  obtain ⟨i, h2, h⟩ := bind_some h
  obtain ⟨⟨ts, bb⟩, h3, h⟩ := map_some h
  cases h
  have e1 := popOf_eq h1
  subst e1
  obtain ⟨v1, v2, v3, v4⟩ := ok.var h2
  exact s_pop v1 v2 v3 v4 hl hs (tg_snd ok 4 h3) (stores_none rfl _)
def popC : Expr → Option (Str × Pos × Pos × Expr × Pos × Expr × Expr × Scope × Pos)
  | .ListComp (.Call (.Attribute (.Name x p) m apos) [ix] [] cpos) [⟨tg, iter, [], 0⟩] scope pos => if m = "pop" then some (x, p, apos, ix, cpos, tg, iter, scope, pos) else none
  | _ => none
theorem popC_eq {e : Expr} {x : Str} {p apos cpos pos : Pos} {ix tg iter : Expr} {scope : Scope} (h : popC e = some (x, p, apos, ix, cpos, tg, iter, scope, pos)) : e = .ListComp (.Call (.Attribute (.Name x p) "pop" apos) [ix] [] cpos) [⟨tg, iter, [], 0⟩] scope pos := by
  unfold popC at h
  split at h
  · obtain ⟨em, h⟩ := ite_some h
    subst em
    cases h
    rfl
  · cases h
def swB (Γ : Ctx) (scope : Scope) (y : Str) (p' pos : Pos) : Bool := (match Γ.sc.kind with | .function => true | _ => false) && (Γ.sc.names.lookup y == some .local) && (p'.line == pos.line) && !(scope.names.any fun y' => y'.1 == y && (y'.2 == .local || y'.2 == .cell))
theorem swB_eq {elt : Expr} {gs : List Comprehension} {scope : Scope} {y : Str} {l : Nat} (ok : XOk k Γ X) (h : swB Γ scope y p' pos = true) : swapsWith (.ListComp elt gs scope pos) (some (.Name y p')) l X.env = pure true ∧ X.env.scope.names.lookup y = some .local := by
  unfold swB at h
  simp only [Bool.and_eq_true, beq_iff_eq, Bool.not_eq_true'] at h
  obtain ⟨⟨⟨h1, h2⟩, h3⟩, h4⟩ := h
  have hk : X.env.scope.kind = .function := by
    rw [ok.sc]
    split at h1
    · assumption
    · cases h1
  have hy : X.env.scope.names.lookup y = some .local := by rw [ok.sc]; exact h2
  exact ⟨sw_true hk hy (by rw [h3]; exact beq_self_eq_true _) h4, hy⟩
theorem swD_eq {kx vx : Expr} {gs : List Comprehension} {scope : Scope} {y : Str} {l : Nat} (ok : XOk k Γ X) (h : swB Γ scope y p' pos = true) : swapsWith (.DictComp kx vx gs scope pos) (some (.Name y p')) l X.env = pure true ∧ X.env.scope.names.lookup y = some .local := by
  obtain ⟨w1, w2⟩ := swB_eq (elt := kx) (gs := gs) (l := l) ok h
  exact ⟨w1, w2⟩
theorem swB_no {elt : Expr} {gs : List Comprehension} {scope : Scope} {y : Str} {l : Nat} (ok : XOk k Γ X) (hl : Γ.sc.names.lookup y ≠ some .local) : swapsWith (.ListComp elt gs scope pos) (some (.Name y p')) l X.env = pure false := by
  have ky : (X.env.kindOf y == some .local) = false := by
    rw [beq_eq_false_iff_ne]
    show X.env.scope.names.lookup y ≠ some .local
    rw [ok.sc]
    exact hl
  unfold swapsWith
  simp only [ky, Bool.and_false, Bool.false_and]
theorem swD_no {kx vx : Expr} {gs : List Comprehension} {scope : Scope} {y : Str} {l : Nat} (ok : XOk k Γ X) (hl : Γ.sc.names.lookup y ≠ some .local) : swapsWith (.DictComp kx vx gs scope pos) (some (.Name y p')) l X.env = pure false := by
  have w := swB_no (elt := kx) (gs := gs) (scope := scope) (pos := pos) (p' := p') (l := l) ok hl
  exact w
def cPopC (r : Rec) (Γ : Ctx) (y : Str) (p' : Pos) (e : Expr) : Option DenS := (popC e).bind fun q => match q with
  | (x, p, apos, ix, cpos, tg, iter, scope, pos) => if blkC Γ.N Γ.sc scope (ownOf Γ.N scope) = true ∧ isSet iter = false ∧ swB Γ scope y p' pos = true ∧ (apos.endLine == cpos.line) = true ∧ isStar ix = false then
      (slotOf Γ.N y).bind fun i => (cVar (Γ.in scope) x).bind fun iL => (cIt r Γ false tg iter).bind fun it => (cTg (Γ.in scope) 4 tg).bind fun tb => (cB r (Γ.in scope) ix).bind fun g =>
        if tb.1.all (fun t => decide (t ∈ (ownOf Γ.N scope).map (·.2))) = true ∧ iL ∉ (ownOf Γ.N scope).map (·.2) then some (dPopC i iL ((ownOf Γ.N scope).map (·.2)) it tb.2 g) else none
    else none
theorem popc_snd {y : Str} {e : Expr} {F : DenS} {sp : Pos} (hr : Snd k r) (h : cPopC r Γ y p' e = some F) (ok : XOk k Γ X) : PS X (.Assign [.Name y p'] e sp) (tS X.K F) := by
  obtain ⟨⟨x, p, apos, ix, cpos, tg, iter, scope, pos⟩, h1, h⟩ := bind_some h
  have e1 := popC_eq h1
  subst e1
  replace h := ite_some h
  obtain ⟨⟨hb, hs, hsw, hl, hst⟩, h⟩ := h
  obtain ⟨i, h2, h⟩ := bind_some h
  obtain ⟨iL, h3, h⟩ := bind_some h
  obtain ⟨it, h4, h⟩ := bind_some h
  obtain ⟨⟨ts, bb⟩, h5, h⟩ := bind_some h
  obtain ⟨g, h6, h⟩ := bind_some h
  obtain ⟨⟨ht, hn⟩, h⟩ := ite_some h
  cases h
  obtain ⟨w1, w2⟩ := swB_eq (k := k) ok hsw
  refine s_popc ok.calm ok.nd (by rw [ok.N]; exact slotOf_get h2) w2 w1 (it_snd hr h4 ok) (blkOk_by (by rw [ok.N, ok.sc]; exact hb)) (fun t hm => of_decide_eq_true (List.all_eq_true.mp ht t hm)) hn
    (fun s H C cl fp => tg_snd (ok.inn scope s H C cl fp) 4 h5) (fun s H C cl fp => ?_) (fun s H C cl fp => cB_snd hr h6 (ok.inn scope s H C cl fp)) hl hst (fold_ok hs _)
  obtain ⟨v1, v2, v3, v4⟩ := (ok.inn scope s H C cl fp).var h3
  exact pe_var v1 v2 v3 v4
def popT : Expr → Option (Pos × Pos × Expr)
  | .Call (.Name x p) [e] [] q => if x = "tuple" ∧ (popC e).isSome = true then some (p, q, e) else none
  | _ => none
theorem popT_eq {e a : Expr} {p q : Pos} (h : popT e = some (p, q, a)) : e = .Call (.Name "tuple" p) [a] [] q := by
  unfold popT at h
  split at h
  · have h2 := ite_some h
    clear h
    obtain ⟨⟨ex, _⟩, h2⟩ := h2
    subst ex
    cases h2
    rfl
  · cases h
def cPopT (r : Rec) (Γ : Ctx) (y : Str) (e : Expr) : Option DenS := (popC e).bind fun q => match q with
  | (x, p, apos, ix, cpos, tg, iter, scope, pos) => if blkC Γ.N Γ.sc scope (ownOf Γ.N scope) = true ∧ isSet iter = false ∧ glB Γ.sc "tuple" = true ∧ (apos.endLine == cpos.line) = true ∧ isStar ix = false then
      (cSlot Γ y).bind fun i => (cVar (Γ.in scope) x).bind fun iL => (cIt r Γ false tg iter).bind fun it => (cTg (Γ.in scope) 4 tg).bind fun tb => (cB r (Γ.in scope) ix).bind fun g =>
        if tb.1.all (fun t => decide (t ∈ (ownOf Γ.N scope).map (·.2))) = true ∧ iL ∉ (ownOf Γ.N scope).map (·.2) then some (dPopT i iL ((ownOf Γ.N scope).map (·.2)) it tb.2 g) else none
    else none
theorem popt_snd {y : Str} {e : Expr} {F : DenS} {sp px pq : Pos} (hr : Snd k r) (h : cPopT r Γ y e = some F) (ok : XOk k Γ X) : PS X (.Assign [.Name y p'] (.Call (.Name "tuple" px) [e] [] pq) sp) (tS X.K F) := by
  obtain ⟨⟨x, p, apos, ix, cpos, tg, iter, scope, pos⟩, h1, h⟩ := bind_some h
  have e1 := popC_eq h1
  subst e1
  replace h := ite_some h
  obtain ⟨⟨hb, hs, hgt, hl, hst⟩, h⟩ := h
  obtain ⟨i, h2, h⟩ := bind_some h
  obtain ⟨iL, h3, h⟩ := bind_some h
  obtain ⟨it, h4, h⟩ := bind_some h
  obtain ⟨⟨ts, bb⟩, h5, h⟩ := bind_some h
  obtain ⟨g, h6, h⟩ := bind_some h
  obtain ⟨⟨ht, hn⟩, h⟩ := ite_some h
  cases h
  obtain ⟨q1, q2, q3⟩ := slot_snd h2 ok
  obtain ⟨t1, _, _⟩ := ok.gl hgt
  refine s_popt ok.calm ok.nd q1 q2 q3 t1 (ok.blt _ (by decide +kernel)) (it_snd hr h4 ok) (blkOk_by (by rw [ok.N, ok.sc]; exact hb)) (fun t hm => of_decide_eq_true (List.all_eq_true.mp ht t hm)) hn
    (fun s H C cl fp => tg_snd (ok.inn scope s H C cl fp) 4 h5) (fun s H C cl fp => ?_) (fun s H C cl fp => cB_snd hr h6 (ok.inn scope s H C cl fp)) hl hst (fold_ok hs _)
  obtain ⟨v1, v2, v3, v4⟩ := (ok.inn scope s H C cl fp).var h3
  exact pe_var v1 v2 v3 v4
def isLC : Expr → Bool
  | .ListComp .. => true
  | _ => false
def isNewD : Expr → Bool
  | .Dict [] [] _ => true
  | _ => false
theorem isNewD_eq {e : Expr} (h : isNewD e = true) : ∃ pos, e = .Dict [] [] pos := by
  unfold isNewD at h
  split at h
  · exact ⟨_, rfl⟩
  · cases h
def oneD : Expr → Option (Expr × Expr)
  | .Dict [some c] [v] _ => some (c, v)
  | _ => none
theorem oneD_eq {e c v : Expr} (h : oneD e = some (c, v)) : ∃ pos, e = .Dict [some c] [v] pos := by
  unfold oneD at h
  split at h
  · cases h; exact ⟨_, rfl⟩
  · cases h
def cSet (r : Rec) (Γ : Ctx) (y : Str) (p' : Pos) (e : Expr) : Option DenS := (cSlot Γ y).bind fun i =>
  if isNewD e = true ∧ i ∈ Γ.dic then some (dNewD i)
  else match (if i ∈ Γ.dic then oneD e else none) with
  | some (c, v) => (cF r Γ c).bind fun g => (cF r Γ v).map fun f => (fun ρ => dOneD i g f (fzE ρ (escE Γ 12 e)))
  | none => if isComp e = false ∨ Γ.sc.names.lookup y ≠ some .local ∧ isLC e = true then
    (r Γ e).map fun fb => if fb.2 = true ∧ i ∈ Γ.own then (fun ρ => dOwn i fb.1 (fzE ρ (escE Γ 12 e))) else (fun ρ => dSet i fb.1 (fzE ρ (escE Γ 12 e)))
  else match e with
    | .ListComp elt [⟨tg, iter, ifs, 0⟩] scope pos => if swB Γ scope y p' pos = true then (cParts r Γ true elt tg iter ifs scope).map fun P =>
        if i ∈ Γ.own then (fun ρ => dOwn i (dComp P.it (P.own.map (·.2)) P.bb P.cc P.ee) (fzE ρ (escE Γ 12 e))) else (fun ρ => dSet i (dComp P.it (P.own.map (·.2)) P.bb P.cc P.ee) (fzE ρ (escE Γ 12 e))) else none
    | .DictComp kx vx [⟨tg, iter, ifs, 0⟩] scope pos => if swB Γ scope y p' pos = true ∨ Γ.sc.names.lookup y ≠ some .local then (cPartsD r Γ kx vx tg iter ifs scope).map fun P =>
        if i ∈ Γ.dic then (fun ρ => dOwnC i P.it (P.own.map (·.2)) P.bb P.cc P.kk P.vv (fzE ρ (escE Γ 12 e))) else (fun ρ => dSet i P.den (fzE ρ (escE Γ 12 e))) else none
    | .ListComp elt [⟨tg, iter, ifs, 0⟩, ⟨tg1, iter1, ifs1, 0⟩] scope pos => if swB Γ scope y p' pos = true then (cParts2 r Γ elt tg iter ifs tg1 iter1 ifs1 scope).map fun P =>
        if i ∈ Γ.own then (fun ρ => dOwn i P.den (fzE ρ (escE Γ 12 e))) else (fun ρ => dSet i P.den (fzE ρ (escE Γ 12 e))) else none
    | _ => none
theorem set_snd {y : Str} {e : Expr} {F : DenS} {sp : Pos} (hr : Snd k r) (h : cSet r Γ y p' e = some F) (ok : XOk k Γ X) : PS X (.Assign [.Name y p'] e sp) (tS X.K F) := by
  replace h := bind_some h
  obtain ⟨i, h1, h⟩ := h
  obtain ⟨q1, q2, q3⟩ := slot_snd h1 ok
  split at h
  · rename_i hd
    cases h
    obtain ⟨pos, rfl⟩ := isNewD_eq hd.1
    exact s_newD ok.nd q1 q2 q3
  split at h
  · rename_i c v ho
    obtain ⟨_, ho⟩ := ite_some ho
    obtain ⟨pos, rfl⟩ := oneD_eq ho
    obtain ⟨g, h2, h⟩ := bind_some h
    obtain ⟨f, h3, h⟩ := map_some h
    cases h
    exact s_fz _ (s_oneD ok.u65 ok.nd q1 q2 q3 (cF_snd hr h2 ok).1 (cF_snd hr h3 ok).1)
  split at h
  · rename_i hc
    obtain ⟨⟨f, b⟩, h2, h3⟩ := map_some h
    have hsw : swapsWith e (some (.Name y p')) sp.line X.env = pure false := by
      rcases hc with hc | ⟨hc, hm⟩
      · exact swaps_no hc
      · cases e with
        | ListComp elt gs scope pos => exact swB_no ok hc
        | _ => cases hm
    split at h3
    · rename_i hb
      cases h3
      exact s_fz _ (s_own ok.nd q1 q2 q3 hsw ((hr _ _ _ _ h2 X ok).2.1 hb.1))
    · cases h3
      exact s_fz _ (s_set ok.nd q1 q2 q3 hsw (hr _ _ _ _ h2 X ok).1)
  · split at h
    · obtain ⟨hsw, h⟩ := ite_some h
      obtain ⟨P, h2, h3⟩ := map_some h
      have q := parts_snd hr h2 ok
      obtain ⟨w1, w2⟩ := swB_eq (k := k) ok hsw
      split at h3
      · cases h3
        exact s_fz _ (s_lc ok.calm ok.nd q1 w2 w1 q.it q.blk q.ts q.tg q.ifs q.elt q.set fun Dn σ H h => own_read h)
      · cases h3
        exact s_fz _ (s_lc ok.calm ok.nd q1 w2 w1 q.it q.blk q.ts q.tg q.ifs q.elt q.set fun Dn σ H h => fz_asg (set_read h))
    · obtain ⟨hsw, h⟩ := ite_some h
      obtain ⟨P, h2, h3⟩ := map_some h
      obtain ⟨d1, d2⟩ := partsD_snd hr h2 ok
      rcases hsw with hsw | hsw
      · obtain ⟨w1, w2⟩ := swD_eq (k := k) ok hsw
        split at h3
        · cases h3
          exact s_fz _ (s_dcompO d1 d2 q1 w2 w1)
        · cases h3
          exact s_fz _ (s_dcomp d1 d2 q1 w2 w1)
      · split at h3
        · cases h3
          exact s_fz _ (s_dcompOC d1 d2 ok.nd q1 q2 q3 (swD_no ok hsw))
        · cases h3
          exact s_fz _ (s_set ok.nd q1 q2 q3 (swD_no ok hsw) (e_dcomp d1 d2))
    · obtain ⟨hsw, h⟩ := ite_some h
      obtain ⟨P, h2, h3⟩ := map_some h
      have q := parts2_snd hr h2 ok
      obtain ⟨w1, w2⟩ := swB_eq (k := k) ok hsw
      split at h3
      · cases h3
        exact s_fz _ (psW (ps_setLc2 ok.calm ok.nd q1 w2 w1 q.it q.blk q.ts1 q.tg q.ifs q.it1 q.tg1 q.ifs1 q.elt q.set q.set1) fun Dn σ H h => comp2_read q.ts (fun _ h => h) (own_read h))
      · cases h3
        exact s_fz _ (psW (ps_setLc2 ok.calm ok.nd q1 w2 w1 q.it q.blk q.ts1 q.tg q.ifs q.it1 q.tg1 q.ifs1 q.elt q.set q.set1) fun Dn σ H h => comp2_read q.ts (fun _ h => h) (fz_asg (set_read h)))
    · cases h
def parOf : List Expr → Expr → Option (Str × Pos × Str × Pos × Expr × Expr × Nat × Pos)
  | [.Name x px, .Name y py], .Tuple [a, b] k2 p2 => some (x, px, y, py, a, b, k2, p2)
  | _, _ => none
theorem parOf_eq {es : List Expr} {e : Expr} {x y : Str} {px py p2 : Pos} {a b : Expr} {k2 : Nat} (h : parOf es e = some (x, px, y, py, a, b, k2, p2)) : es = [.Name x px, .Name y py] ∧ e = .Tuple [a, b] k2 p2 := by
  unfold parOf at h
  split at h
  · cases h; exact ⟨rfl, rfl⟩
  · cases h
def cOne (r : Rec) (Γ : Ctx) (i : Nat) (e : Expr) : Option (Bool × Den) := (r Γ e).map fun fb => (fb.2 && decide (i ∈ Γ.own), fb.1)
theorem one_snd {i : Nat} {e : Expr} {o : Bool} {f : Den} (hr : Snd k r) (h : cOne r Γ i e = some (o, f)) (ok : XOk k Γ X) : PE X e (tE X.K (mdO o) f) := by
  obtain ⟨⟨g, b⟩, h1, h2⟩ := map_some h
  cases h2
  cases e1 : (b && decide (i ∈ Γ.own)) with
  | true =>
    rw [Bool.and_eq_true] at e1
    exact (hr _ _ _ _ h1 X ok).2.1 e1.1
  | false => exact (hr _ _ _ _ h1 X ok).1
def cPar (r : Rec) (Γ : Ctx) (x : Str) (px : Pos) (y : Str) (py : Pos) (a b e : Expr) : Option DenS := if parB Γ.sc x y px py a b = true then
    (slotOf Γ.N x).bind fun i => (slotOf Γ.N y).bind fun j => if i ≠ j then (cOne r Γ i a).bind fun fa => (cOne r Γ j b).map fun fb => (fun ρ => dPar i j fa.1 fb.1 fa.2 fb.2 (fzE ρ (escE Γ 12 e))) else none
  else none
theorem par_snd {x y : Str} {px py p2 : Pos} {a b : Expr} {k2 kk : Nat} {F : DenS} (hr : Snd k r) (h : cPar r Γ x px y py a b (.Tuple [a, b] k2 p2) = some F) (ok : XOk k Γ X) : PS X (.Assign [.Tuple [.Name x px, .Name y py] kk p] (.Tuple [a, b] k2 p2) p') (tS X.K F) := by
  obtain ⟨hp, h⟩ := ite_some h
  obtain ⟨i, h1, h⟩ := bind_some h
  obtain ⟨j, h2, h⟩ := bind_some h
  obtain ⟨hij, h⟩ := ite_some h
  obtain ⟨⟨oi, fa⟩, h3, h⟩ := bind_some h
  obtain ⟨⟨oj, fb⟩, h4, h⟩ := map_some h
  cases h
  have hp' : parB X.env.scope x y px py a b = true := by rw [ok.sc]; exact hp
  have hq := hp'
  unfold parB at hq
  simp only [Bool.and_eq_true, beq_iff_eq, Bool.not_eq_true'] at hq
  exact s_fz _ (s_par ok.calm ok.nd (by rw [ok.N]; exact slotOf_get h1) (by rw [ok.N]; exact slotOf_get h2) hij hq.1.1.1.1.1.1.1.2 hq.1.1.1.1.1.1.2 hq.1.1.1.2 hq.1.1.2 (one_snd hr h3 ok) (one_snd hr h4 ok) (stores_par hp'))
def cUnp (r : Rec) (Γ : Ctx) (es : List Expr) (e : Expr) : Option DenS := if foldB e = true then
    (if starLast es = true then
      (if (unstar es).all (fun e => !isStar e) = true ∧ 1 ≤ es.length then (cTgs (cTg Γ 4) (unstar es)).bind fun tb => (cF r Γ e).map fun f => (fun ρ => dStar (es.length - 1) tb.2 f (fzE ρ (escE Γ 12 e))) else none)
    else (cTgs (cTg Γ 4) es).bind fun tb => (cF r Γ e).map fun f => (fun ρ => dUnp (bTup tb.2) f (fzE ρ (escE Γ 12 e))))
  else none
theorem unp_snd {es : List Expr} {e : Expr} {F : DenS} {kk : Nat} (hr : Snd k r) (h : cUnp r Γ es e = some F) (ok : XOk k Γ X) : PS X (.Assign [.Tuple es kk p] e p') (tS X.K F) := by
  obtain ⟨ht, h⟩ := ite_some h
  split at h
  · rename_i hsl
    obtain ⟨⟨hu, hl⟩, h⟩ := ite_some h
    obtain ⟨⟨ts, bs⟩, h1, h⟩ := bind_some h
    obtain ⟨f, h2, h⟩ := map_some h
    cases h
    exact s_fz _ (s_star ok.calm hsl hu (by omega) (stores_fold ht _) (tgs_snd ok (fun e ts bb h => tg_snd ok 4 h) h1).1 (cF_snd hr h2 ok).1)
  · obtain ⟨⟨ts, bs⟩, h1, h⟩ := bind_some h
    obtain ⟨f, h2, h⟩ := map_some h
    cases h
    obtain ⟨q1, q2⟩ := tgs_snd ok (fun e ts bb h => tg_snd ok 4 h) h1
    exact s_fz _ (s_unp rfl sole_tup (stores_fold ht _) (g_tup (pr := false) ok.calm q2 (tgs_len h1) q1) (cF_snd hr h2 ok).1)
def cSetIx (r : Rec) (Γ : Ctx) (x : Str) (ix e : Expr) : Option DenS := if isSlice ix = false then (cVar Γ x).bind fun i => if i ∈ Γ.dic then (cF r Γ ix).bind fun g => (cF r Γ e).map fun f => (fun ρ => dPutN i g f (fzE ρ (escE Γ 12 ix ++ escE Γ 12 e))) else if isComp e = false then (cB r Γ ix).bind fun g => (cF r Γ e).map fun f => (fun ρ => dSetIx i g f (fzE ρ (escE Γ 12 e))) else none else none
theorem setIx_snd {x : Str} {ix e : Expr} {F : DenS} {apos : Pos} (hr : Snd k r) (h : cSetIx r Γ x ix e = some F) (ok : XOk k Γ X) : PS X (.Assign [.Subscript (.Name x p) ix apos] e p') (tS X.K F) := by
  obtain ⟨hs, h⟩ := ite_some h
  obtain ⟨i, h1, h⟩ := bind_some h
  obtain ⟨v1, v2, v3, v4⟩ := ok.var h1
  split at h
  · obtain ⟨g, h2, h⟩ := bind_some h
    obtain ⟨f, h3, h⟩ := map_some h
    cases h
    exact s_fz _ (s_putN ok.u65 ⟨v1, v2, v3, v4⟩ (cF_snd hr h2 ok).1 (cF_snd hr h3 ok).1)
  obtain ⟨hc, h⟩ := ite_some h
  obtain ⟨g, h2, h⟩ := bind_some h
  obtain ⟨f, h3, h⟩ := map_some h
  cases h
  exact s_fz _ (s_setIx (px := p) v1 v2 v3 v4 hs hc (cB_snd hr h2 ok) (cF_snd hr h3 ok).1)
def cRO (r : Rec) (Γ : Ctx) : Nat → Expr → Option Den
  | 0, _ => none
  | n + 1, e => match e with
    | .Name x _ => (cVar Γ x).map dRO
    | .IfExp c a d _ => if isIf c = false then (cF r Γ c).bind fun fc => (cRO r Γ n a).bind fun fa => (cRO r Γ n d).map fun fd => dIf fc fa fd else none
    | e => (r Γ e).bind fun fb => if fb.2 = true then some (fun ρ => fb.1 (fzE ρ (escE Γ 12 e))) else none
theorem ro_snd (hr : Snd k r) (ok : XOk k Γ X) : ∀ (n : Nat) {e : Expr} {f : Den}, cRO r Γ n e = some f → PE X e (tR X.K f)
  | 0, _, _, h => by cases h
  | n + 1, e, f, h => by
    have gen : ((r Γ e).bind fun fb => if fb.2 = true then some (fun ρ => fb.1 (fzE ρ (escE Γ 12 e))) else none) = some f → PE X e (tR X.K f) := fun h => by
      obtain ⟨⟨g, b⟩, h1, h⟩ := bind_some h
      obtain ⟨hb, h⟩ := ite_some h
      cases h
      exact r_fz _ (r_ow ((hr _ _ _ _ h1 X ok).2.1 hb))
    cases e with
    | Name x p =>
      obtain ⟨i, h1, h2⟩ := map_some h
      cases h2
      obtain ⟨v1, v2, v3, v4⟩ := ok.var h1
      exact r_name v1 v2 v3 v4
    | IfExp c a d p =>
      obtain ⟨hi, h⟩ := ite_some h
      obtain ⟨fc, h1, h⟩ := bind_some h
      obtain ⟨fa, h2, h⟩ := bind_some h
      obtain ⟨fd, h3, h⟩ := map_some h
      cases h
      exact r_if ((cF_snd hr h1 ok).2 hi) (ro_snd hr ok n h2) (ro_snd hr ok n h3)
    | _ => exact gen h
def stepS (r : Rec) (rs : RecS) : RecS := fun Γ st => match st with
  | .Expr (.Call (.Attribute (.Name x _) m apos) [e] [] pos) _ => cMeth r Γ x m e apos pos
  | .Expr (.Call (.Name x px) as [] pos) _ => (cF r Γ (.Call (.Name x px) as [] pos)).map fun f => (fun ρ => dDrop f (fzE ρ (escE Γ 12 (.Call (.Name x px) as [] pos))))
  | .Assign [.Name y p'] e _ => match popOf e with
    | some _ => cPop Γ (.Name y p') e
    | none => match popC e with
      | some _ => cPopC r Γ y p' e
      | none => match popT e with
        | some (_, _, a) => cPopT r Γ y a
        | none => cSet r Γ y p' e
  | .Assign [.Tuple es kk p] e _ => match popOf e with
    | some _ => cPop Γ (.Tuple es kk p) e
    | none => match (if foldB e = true then none else parOf es e) with
      | some (x, px, y, py, a, b, _, _) => cPar r Γ x px y py a b e
      | none => cUnp r Γ es e
  | .Assign [.Subscript (.Name x _) ix _] e _ => cSetIx r Γ x ix e
  | .AugAssign (.Name x _) .Add e _ => (cSlot Γ x).bind fun i => (cB r Γ e).map fun f => dAug i f
  | .Return (some e) _ => if Γ.ro = true then (cRO r Γ 4 e).map dRetO else (cF r Γ e).map fun f => (fun ρ => dRet f (fzE ρ (escE Γ 12 e)))
  | .If c A B _ => if isIf c = false then (cF r Γ c).bind fun fc => (cSs rs Γ A).bind fun F => (cSs rs Γ B).map fun F' => (fun ρ => dIfS fc F F' (fzE ρ (escE Γ 12 c))) else none
  | .For tg iter body [] _ => if isSet iter = false then (cIt r Γ false tg iter).bind fun it => (cTg Γ 4 tg).bind fun tb => (cSs rs Γ body).map fun F => (fun ρ => dFor it tb.2 F (fzE ρ (escI Γ iter))) else none
  | .While c body [] _ => if isIf c = false then (cF r Γ c).bind fun fc => (cSs rs Γ body).map fun F => whileL fc F Γ.wf else none
  | .Pass _ => some fun ρ => some (.next ρ)
  | .Break _ => some fun ρ => some (.brk ρ)
  | .Continue _ => some fun ρ => some (.cont ρ)
  | .Raise _ _ _ => some fun _ => none
  | _ => none
theorem stepS_snd (hr : Snd k r) (hrs : SndS k rs) : SndS k (stepS r rs) := by
  intro Γ st F h X ok
  unfold stepS at h
  split at h
  · exact meth_snd hr h ok
  · obtain ⟨f, h1, h2⟩ := map_some h
    cases h2
    exact s_fz _ (s_drop rfl (cF_snd hr h1 ok).1)
  · split at h
    · exact pop_snd h ok
    · split at h
      · exact popc_snd hr h ok
      · split at h
        · rename_i et
          rw [popT_eq et]
          exact popt_snd hr h ok
        · exact set_snd hr h ok
  · split at h
    · exact pop_snd h ok
    · split at h
      · rename_i x px y py a b k2 p2 eq
        split at eq
        · cases eq
        · obtain ⟨rfl, rfl⟩ := parOf_eq eq
          exact par_snd hr h ok
      · exact unp_snd hr h ok
  · exact setIx_snd hr h ok
  · obtain ⟨i, h1, h⟩ := bind_some h
    obtain ⟨f, h2, h⟩ := map_some h
    cases h
    obtain ⟨q1, q2, q3⟩ := slot_snd h1 ok
    exact s_aug ok.nd q1 q2 q3 (cB_snd hr h2 ok)
  · split at h
    · obtain ⟨f, h1, h2⟩ := map_some h
      cases h2
      exact s_retO (ro_snd hr ok 4 h1)
    · obtain ⟨f, h1, h2⟩ := map_some h
      cases h2
      exact s_fz _ (s_ret (cF_snd hr h1 ok).1)
  · obtain ⟨hi, h⟩ := ite_some h
    obtain ⟨fc, h1, h⟩ := bind_some h
    obtain ⟨F1, h2, h⟩ := bind_some h
    obtain ⟨F2, h3, h⟩ := map_some h
    cases h
    exact s_fz _ (s_if ((cF_snd hr h1 ok).2 hi) (ss_snd hrs ok h2) (ss_snd hrs ok h3))
  · obtain ⟨hs, h⟩ := ite_some h
    obtain ⟨it, h1, h⟩ := bind_some h
    obtain ⟨⟨ts, bb⟩, h2, h⟩ := bind_some h
    obtain ⟨F1, h3, h⟩ := map_some h
    cases h
    exact s_fz _ (s_for ok.xe ok.calm (it_snd hr h1 ok) (tg_snd ok 4 h2) (ss_snd hrs ok h3) (fold_ok hs _))
  · obtain ⟨hi, h⟩ := ite_some h
    obtain ⟨fc, h1, h⟩ := bind_some h
    obtain ⟨F1, h2, h⟩ := map_some h
    cases h
    exact s_while _ ok.xe ((cF_snd hr h1 ok).2 hi) (ss_snd hrs ok h2)
  · cases h; exact s_pass
  · cases h; exact s_break
  · cases h; exact s_continue
  · cases h; exact ⟨fun pins s σ H Dn I q => by obtain ⟨_, _, _, _, _, _, hf, _⟩ := q; cases hf⟩
  · cases h
def cS (n : Nat) : Nat → RecS
  | 0 => fun _ _ => none
  | m + 1 => stepS (cE n) (cS n m)
theorem cS_snd (k n : Nat) : ∀ m, SndS k (cS n m)
  | 0 => fun Γ e f h => by cases h
  | m + 1 => stepS_snd (cE_snd k n) (cS_snd k n m)
def cBody (Γ : Ctx) (sts : List Stmt) : Option DenS := cSs (cS 14 8) Γ sts
end
end PF
namespace PF
open PySem PySem.Spec PyProof.Rows L2
def Av (P : Program) (w : World) (K : PySem.W.Frag) (mg : Str → Option Value) (base : Heap) (k : Nat) (x : Str) (n : Nat) (g : List D → Option D) : Prop :=
  ∃ fa fd ps, mg x = some (.ref fa) ∧ PySem.W.keepIn K (.ref fa) = true ∧ Binds K fd ps [] ∧ FnOk P w K mg base CX0 k fa fd ps (spF K n g)
section
variable {P : Program} {w : World} {K : PySem.W.Frag} {mg : Str → Option Value} {base : Heap}
theorem Av.mono {j k n : Nat} {x : Str} {g : List D → Option D} (h : Av P w K mg base j x n g) (hj : j ≤ k) : Av P w K mg base k x n g := by
  obtain ⟨fa, fd, ps, h1, h2, h3, h4⟩ := h
  exact ⟨fa, fd, ps, h1, h2, h3, h4.mono hj⟩
structure Glob (mg : Str → Option Value) (gls : List (Str × D)) (K : PySem.W.Frag) : Prop where
  blt : ∀ x ∈ bltNames, mg x = none
  gls : ∀ x d, gls.lookup x = some d → ∃ v u, mg x = some u ∧ RelV v u ∧ (∀ G, Rp K G v d) ∧ ∀ xs, d ≠ .list xs
theorem fn_def {x : Str} {params : Arguments} {body : List Stmt} {scope : Scope} {fa : Addr} {fd : FuncData} {N ps : List Str} {k : Nat} {Γ : Ctx} {F : DenS}
    {kwv : List (Str × V)} (Fn : FunD K x x params body scope [] kwv fa fd) (S : FnScope N ps scope) (hN : Γ.N = N) (hsc : Γ.sc = scope) (hb : Γ.blk = none) (chk : cBody Γ body = some F)
    (hf : ∀ y n g, Γ.fns.lookup y = some (n, g) → Av P w K mg base k y n g) (hk : ∀ y ks n o g, (y, ks, n, o, g) ∈ Γ.fks → AvK P w K mg base k y ks n o g) (gl : Glob mg Γ.gls K) (hlm : Γ.lam = false := by rfl) (hlk : ∀ y m n g, Γ.lks.lookup y = some (m, n, g) → AvL P w K mg base k y m n g := by intro _ _ _ _ h; cases h) :
    FnOk P w K mg base CX0 (k + 1) fa fd ps (spF K ps.length (runF N.length F)) := by
  refine Fn.ok S (fun vs H Q E h => ?_) (fun cdv A outer s H vs Q E hr h => ⟨tS K F, PSs.nox ?_, ?_⟩)
  · obtain ⟨G, ds, d, tb, gh, r, hl, _⟩ := h
    rw [r.length]
    exact hl
  · have ok : XOk k Γ (cxOf CX0 P w K mg base N x scope fa cdv A outer s H E).nox :=
      { N := hN.symm, nd := S.nd, sc := hsc.symm, calm := rfl, room := hr, xe := rfl, fn := fun _ _ => .inl rfl, fns := hf, fks := hk, lks := hlk, blt := gl.blt, gls := gl.gls, lamF := fun z => absurd (hlm ▸ z) Bool.false_ne_true }
    exact ss_snd (cS_snd k 14 8) ok chk
  · obtain ⟨G, ds, d, tb, gh, r, hl, hrun, q⟩ := h
    unfold runF at hrun
    split at hrun
    · rename_i d' e1
      cases hrun
      exact ⟨H, G, G, _, _, env_start tb gh r, e1, q⟩
    · rename_i ρ' e1
      cases hrun
      exact ⟨H, G, G, _, _, env_start tb gh r, e1, fun σ' H' G' _ ok' => q _ _ _ ok'.st .non⟩
    · cases hrun
structure LamD (K : PySem.W.Frag) (mg : Str → Option Value) (base : Heap) (x : Str) (fa : Addr) : Prop where
  at_ : fa = He.fAd K (x, none)
  tb : LamX.TabB base mg (lamAd K x).1 (lamAd K x).2
  mem : ((lamAd K x).2, lamQ x) ∈ lamT K
theorem FunD.okC {CX : CXT} {x : Str} {params : Arguments} {body : List Stmt} {scope : Scope} {dvs : List V} {kws : List (Str × V)} {f : Addr} {fd : FuncData} {N ps : List Str} {k : Nat} {sp : Sp} (F : FunD K x x params body scope dvs kws f fd) (hf : f = He.fAd K (x, none)) (S : FnScope N ps scope) (len : ∀ vs H Q E, sp vs H Q E → vs.length = ps.length)
    (hbody : ∀ (c : Addr), (lamAd K x).1 = c → ∀ (A : Around) (outer : List PySem.Env) (s : Shared) (H : Hp) (vs : List V) (Q : VK) (E : XK), Room k (A.deeper (envOfC x scope s.heap.objs.size f (.ref c))) → sp vs H Q E →
      ∃ t, PSs (cxOf CX P w K mg base N x scope f (.ref c) A outer s H E) body t ∧ t { nx := fun _ H' => Q .non H', rt := Q } (L2.start N vs) H) : FnOk P w K mg base CX (k + 1) f fd ps sp := by
  obtain ⟨oc, od, dV, kV, doc, pm, an, cdv, ct, osl, rfl, lk, hcd, _, _⟩ := F.ex
  obtain ⟨c, rfl⟩ := He.codeIn_ref hcd
  exact fn_of lk hcd S len fun A outer s H vs Q E hr hsp => hbody c (He.codeOf_eq (p := (x, none)) (hf ▸ lk) rfl) A outer s H vs Q E hr hsp
theorem fnL_def {x : Str} {params : Arguments} {body : List Stmt} {scope : Scope} {fa : Addr} {fd : FuncData} {N ps : List Str} {k : Nat} {Γ : Ctx} {F : DenS}
    {kwv : List (Str × V)} (Fn : FunD K x x params body scope [] kwv fa fd) (S : FnScope N ps scope) (hN : Γ.N = N) (hsc : Γ.sc = scope) (hb : Γ.blk = none) (chk : cBody Γ body = some F)
    (hf : ∀ y n g, Γ.fns.lookup y = some (n, g) → Av P w K mg base k y n g) (hk : ∀ y ks n o g, (y, ks, n, o, g) ∈ Γ.fks → AvK P w K mg base k y ks n o g) (gl : Glob mg Γ.gls K) (hlam : LamD K mg base x fa) (hlk : ∀ y m n g, Γ.lks.lookup y = some (m, n, g) → AvL P w K mg base k y m n g := by intro _ _ _ _ h; cases h) :
    FnOk P w K mg base CX0 (k + 4) fa fd ps (spF K ps.length (runF N.length F)) := by
  refine FunD.okC Fn hlam.at_ S (fun vs H Q E h => ?_) (fun c hcc A outer s H vs Q E hr h => ⟨tS K F, PSs.nox ?_, ?_⟩)
  · obtain ⟨G, ds, d, tb, gh, r, hl, _⟩ := h
    rw [r.length]
    exact hl
  · have ok : XOk k Γ (cxOf CX0 P w K mg base N x scope fa (.ref c) A outer s H E).nox :=
      { N := hN.symm, nd := S.nd, sc := hsc.symm, calm := rfl, room := hr.mono (by omega), xe := rfl, fn := fun _ _ => .inl rfl, fns := hf, fks := hk, lks := hlk, blt := gl.blt, gls := gl.gls, lamF := fun _ _ => ⟨⟨c, (lamAd K x).2, hcc ▸ hlam.tb, rfl, hlam.mem⟩, hr⟩ }
    exact ss_snd (cS_snd k 14 8) ok chk
  · obtain ⟨G, ds, d, tb, gh, r, hl, hrun, q⟩ := h
    unfold runF at hrun
    split at hrun
    · rename_i d' e1
      cases hrun
      exact ⟨H, G, G, _, _, env_start tb gh r, e1, q⟩
    · rename_i ρ' e1
      cases hrun
      exact ⟨H, G, G, _, _, env_start tb gh r, e1, fun σ' H' G' _ ok' => q _ _ _ ok'.st .non⟩
    · cases hrun
theorem av_def {x : Str} {params : Arguments} {body : List Stmt} {scope : Scope} {fa : Addr} {fd : FuncData} {N ps : List Str} {k : Nat} {Γ : Ctx} {F : DenS}
    (Fn : FunD K x x params body scope [] [] fa fd) (S : FnScope N ps scope) (hN : Γ.N = N) (hsc : Γ.sc = scope) (hb : Γ.blk = none) (chk : cBody Γ body = some F)
    (hf : ∀ y n g, Γ.fns.lookup y = some (n, g) → Av P w K mg base k y n g) (hk : ∀ y ks n o g, (y, ks, n, o, g) ∈ Γ.fks → AvK P w K mg base k y ks n o g) (gl : Glob mg Γ.gls K) (hm : mg x = some (.ref fa)) (hbi : Binds K fd ps []) (hlm : Γ.lam = false := by rfl) (hlk : ∀ y m n g, Γ.lks.lookup y = some (m, n, g) → AvL P w K mg base k y m n g := by intro _ _ _ _ h; cases h) :
    Av P w K mg base (k + 1) x ps.length (runF N.length F) := by
  exact ⟨fa, fd, ps, hm, Fn.kp, hbi, fn_def Fn S hN hsc hb chk hf hk gl hlm hlk⟩
theorem AvK.mono {j k n : Nat} {o : Bool} {x : Str} {ks : List Str} {g : List D → List D → Option D} (h : AvK P w K mg base j x ks n o g) (hj : j ≤ k) : AvK P w K mg base k x ks n o g := by
  obtain ⟨fa, fd, ps, gg, gV, np, f, h1, h2, h3, h4, h5⟩ := h
  exact ⟨fa, fd, ps, gg, gV, np, f, h1, h2, h3, h4.mono hj, h5⟩
theorem glook {x y : Str} {d d' : D} {r : List (Str × D)} {Q : Prop} (h : ((x, d) :: r).lookup y = some d') (h1 : y = x → d = d' → Q) (h2 : r.lookup y = some d' → Q) : Q := by
  rw [List.lookup_cons] at h
  split at h
  · rename_i e
    cases h
    exact h1 (beq_iff_eq.mp e) rfl
  · exact h2 h
theorem lookup1 {x y : Str} {n m : Nat} {g g' : List D → Option D} {r : List (Str × Nat × (List D → Option D))} {Q : Prop} (h : ((x, n, g) :: r).lookup y = some (m, g')) (h1 : y = x → n = m → g = g' → Q) (h2 : r.lookup y = some (m, g') → Q) : Q := by
  rw [List.lookup_cons] at h
  split at h
  · rename_i e
    cases h
    exact h1 (beq_iff_eq.mp e) rfl rfl
  · exact h2 h
def scrD (ns : List Int) : D := .dict ((.list [], .none) :: ns.map fun n => (PyData.int n, PyData.none))
end
end PF
namespace LK
open PySem PySem.Spec PyProof.Rows L2 LamX
def OnlyT (H : Hp) : Prop := ∀ b, H b = none ∨ (∃ ps, H b = some (.tbl ps)) ∨ ∃ o xs, H b = some (.frz o (.lst xs))
theorem law_callL {P : Program} {w : World} {K : PySem.W.Frag} {mg mbn : Str → Option Value} {CX : CXT} {k : Nat} {fa ad : Addr} {cds : List (Addr × Addr)} {fdt : FuncData} {x : Str} {spc : Sp} {sE : Shared} {vz : List Value} {nz : List Int}
    (KXs : K.In sE.heap) (hnS : sE.heap.Ns mainGlobals mg) (hbq : sE.heap.Ns builtinsNs mbn) (hbB : ∀ x : Str, x ≠ "__name__" → mbn x = bootBuiltins x) (hlm : sE.heap.NoLimit) (hgn : sE.gens = #[])
    (hTb : ∀ pp ∈ cds, sE.heap.get? pp.2 = some { cls := .none, data := .fields #[] }) (nTb : ∀ pp ∈ cds, K.lookup pp.2 = none) (Cd : ∀ pp ∈ cds, PySem.W.CodeHd sE.heap pp.1 pp.2)
    (hbM : ∃ (bmm : Addr) (obb : Obj), mg "__builtins__" = some (.ref bmm) ∧ bmm ≠ builtinsNs ∧ sE.heap.get? bmm = some obb ∧ obb.cls = .type "module" ∧ obb.dict = some builtinsNs ∧ obb.data = .plain)
    (hat : sE.heap.get? ad = some { cls := .type "list", data := .seq vz.toArray }) (hin : IntsAre vz nz) (hln : nz.length ≤ sizeLine) (hrm : Room k callerA)
    (F : ∀ base : Heap, K.In base → base.Ns mainGlobals mg → (∀ pp ∈ cds, TabB base mg pp.1 pp.2) → FnOk P w K mg base CX k fa fdt [x] spc) (hbnd : ∀ (s : Shared) (uu : Value), BindsTo s fdt ⟨[uu], []⟩ [(x, uu)])
    (hspc : ∀ Hh : Hp, (∀ pp ∈ cds, Hh pp.2 = some (.tbl #[])) → OnlyT Hh → SqL K Hh ad (nz.map V.int) → spc [.ref ad] Hh (fun vv _ => vv = .bl true) fun _ _ _ => False)
    (hCx : ∀ Hh ee s', CX [] Hh sE (fun _ _ _ => False) ee s' → False) :
    codeAny (model P w) callerA (.call (.ref fa) ⟨[.ref ad], []⟩) (fun rr s' => rr = .ok (.ret (.bool true)) ∧ OldK sE.heap s'.heap ∧ s'.os = sE.os ∧ AllBare s'.gens) sE := by
  have rvs := vals_ints hin
  have lnV := hin.length
  have isTb : ∀ bb : Addr, bb ∈ cds.map (·.2) → sE.heap.get? bb = some { cls := .none, data := .fields #[] } := fun bb hbq => by
    obtain ⟨pp, hpp, ee⟩ := List.mem_map.mp hbq
    rw [← ee]
    exact hTb pp hpp
  have aTb : ad ∉ cds.map (·.2) := fun zz => by
    have qq := isTb ad zz
    rw [hat] at qq
    have z' : Data.seq vz.toArray _ = Data.fields #[] := congrArg Obj.data (Option.some.inj qq)
    cases z'
  have memTb : ∀ pp ∈ cds, pp.2 ∈ cds.map (·.2) := fun pp hpp => List.mem_map.mpr ⟨pp, hpp, rfl⟩
  have corL : ∀ Hh : Hp, (∀ pp ∈ cds, Hh pp.2 = some (.tbl #[])) → (∀ bb, Hh bb = none ∨ bb ∈ cds.map (·.2) ∨ ∃ oo xz, Hh bb = some (.frz oo (.lst xz))) → SqL K Hh ad (nz.map V.int) → HOk P w Hh sE.heap → (∀ bb, Hh bb ≠ none → bb = ad ∨ bb ∈ cds.map (·.2)) → (Hh ad ≠ none → K.lookup ad = none) →
      codeAny (model P w) callerA (.call (.ref fa) ⟨[.ref ad], []⟩) (fun rr s' => rr = .ok (.ret (.bool true)) ∧ OldK sE.heap s'.heap ∧ s'.os = sE.os ∧ AllBare s'.gens) sE := by
    intro Hh hHt hOt hSt hokL hAt hKn
    have bOf : ∀ {bb : Addr} {oo : Obj}, sE.heap.get? bb = some oo → Hh bb = none → (hidT sE.heap Hh).get? bb = some oo := fun ee n => hidT_get ee n
    have nDt : ∀ {bb : Addr} {oo : Obj}, sE.heap.get? bb = some oo → (∀ vz n, oo.data ≠ .seq vz n) → oo.data ≠ .fields #[] → Hh bb = none := fun {bb oo} ee h1 h2 => by
      cases qq : Hh bb with
      | none => rfl
      | some uu =>
        rcases hAt bb (by rw [qq]; simp) with e' | e'
        · rw [e', hat] at ee
          cases ee
          exact (h1 _ _ rfl).elim
        · rw [isTb bb e'] at ee
          cases ee
          exact (h2 rfl).elim
    have nAt : ∀ {bb : Addr} {oo : Obj} {ess : Array DictEntry} {epp : Nat}, sE.heap.get? bb = some oo → oo.data = .dict ess epp → Hh bb = none := fun {bb oo ess epp} ee dd => by
      refine nDt ee (fun vz n zz => ?_) fun zz => ?_
      · rw [dd] at zz
        cases zz
      · rw [dd] at zz
        cases zz
    have nsk : ∀ {bb : Addr} {mm : Str → Option Value}, sE.heap.Ns bb mm → (hidT sE.heap Hh).Ns bb mm := fun {bb mm} ⟨oo, ess, epp, ee, dd, rr⟩ => ⟨oo, ess, epp, bOf ee (nAt ee dd), dd, rr⟩
    have hKbs : K.In (hidT sE.heap Hh) := fun bb oo ee => bOf (KXs bb oo ee) (by
      cases qq : Hh bb with
      | none => rfl
      | some uu =>
        rcases hAt bb (by rw [qq]; simp) with e' | e'
        · rw [e'] at ee qq
          rw [hKn (by rw [qq]; simp)] at ee
          cases ee
        · obtain ⟨pp, hpp, epp⟩ := List.mem_map.mp e'
          rw [← epp, nTb pp hpp] at ee
          cases ee)
    have hMd : L2.Mod K mg (hidT sE.heap Hh) := ⟨hKbs, nsk hnS, ⟨mbn, nsk hbq, hbB⟩, let ⟨mcc, h1, h2⟩ := hlm; ⟨mcc, nsk h1, h2⟩⟩
    have TBs : ∀ pp ∈ cds, TabB (hidT sE.heap Hh) mg pp.1 pp.2 := fun pp hpp => by
      have hTp := hTb pp hpp
      refine ⟨?_, ?_, fun zz => ?_⟩
      · obtain ⟨oo, us, file, tf, flags, tg, inF, text, tt, e1, r1, r2, r3, r4, r5, r6, r7, r8, hne⟩ := Cd pp hpp
        refine ⟨oo, us, file, tf, flags, tg, inF, text, tt, bOf e1 (nDt e1 (fun vz n zz => ?_) fun zz => ?_), r1, r2, r3, r4, r5, r6, r7, r8, hne⟩
        · rw [r2] at zz
          cases zz
        · rw [r2] at zz
          cases zz
          simp at r3
      · obtain ⟨bmm, obb, b1, b2, b3, b4, b5, b6⟩ := hbM
        have nGl : bmm ≠ mainGlobals := fun qq => by
          obtain ⟨oo, ess, epp, ee, hdd, _⟩ := hnS
          rw [qq, ee] at b3
          cases b3
          rw [hdd] at b6
          cases b6
        have nPl : bmm ≠ pp.2 := fun qq => by
          rw [qq, hTp] at b3
          cases b3
          cases b6
        refine ⟨bmm, obb, b1, b2, nGl, nPl, bOf b3 (nDt b3 (fun vz n zz => ?_) fun zz => ?_), b4, b5, b6⟩
        · rw [b6] at zz
          cases zz
        · rw [b6] at zz
          cases zz
      · obtain ⟨oo, ess, epp, ee, hdd, _⟩ := hnS
        rw [zz, hTp] at ee
        cases ee
        cases hdd
    have e00 : Env0 P w K mg (hidT sE.heap Hh) callerA [] sE Hh := ⟨rfl, hMd, fun bb oo ee => of_hidT ee, Nat.le_of_eq (hidT_size _ _), trivial, fun bb hbq => absurd (show bb ∈ ([] : List Addr) from hbq) (by simp), hokL, .of_eq hgn⟩
    refine codeAny_mono ((F _ hKbs (nsk hnS) TBs).run callerA [] sE Hh ⟨[.ref ad], []⟩ [.ref ad] [.ref ad] _ _ hrm e00 (hbnd sE (.ref ad)) (.cons rfl .nil) (hspc Hh hHt (fun bb => (hOt bb).imp id fun y => y.imp (fun y => let ⟨pp, hpp, ee⟩ := List.mem_map.mp y; ⟨_, by rw [← ee]; exact hHt pp hpp⟩) id) hSt)) fun rr s' hh => ?_
    cases rr with
    | error ee => exact (hCx Hh ee s' hh).elim
    | ok flw =>
      cases flw with
      | next => exact False.elim hh
      | brk => exact False.elim hh
      | cont => exact False.elim hh
      | ret uu =>
        obtain ⟨vv, H', oss, bre, unn, hok', r', qq⟩ := hh
        have q' : vv = .bl true := qq
        subst q'
        obtain rfl : uu = Value.bool true := r'
        have keyL : ∀ bb oo, bb ∉ cds.map (·.2) → sE.heap.get? bb = some oo → s'.heap.get? bb = some oo := fun bb oo nb ee => by
          cases qq : Hh bb with
          | none => exact unn.keep bb oo ee qq (by intro zz; exact absurd (show bb ∈ ([] : List Addr) from zz) (by simp)) (by simp)
          | some uu =>
            rcases hOt bb with zz | zz | ⟨obb, xz, zz⟩
            · rw [qq] at zz; cases zz
            · exact absurd zz nb
            · have z2 := unn.frzs bb obb _ zz
              obtain ⟨e1, _⟩ := hokL bb _ zz
              obtain ⟨e2, _⟩ := hok' bb _ z2
              rw [ee] at e1; cases e1
              exact e2
        have grL : ∀ pp ∈ cds, ∃ mor : Array Value, s'.heap.get? pp.2 = some { cls := .none, data := .fields mor } := fun pp hpp => by
          obtain ⟨mor, zz⟩ := unn.tbls pp.2 #[] (hHt pp hpp)
          exact ⟨_, hok' pp.2 _ zz⟩
        refine ⟨rfl, ⟨fun bb oo ee => ?_, fun bb oo ee => ?_⟩, oss, bre⟩
        · by_cases hbq : bb ∈ cds.map (·.2)
          · obtain ⟨pp, hpp, epp⟩ := List.mem_map.mp hbq
            obtain ⟨mor, hmm⟩ := grL pp hpp
            rw [← epp] at ee ⊢
            rw [hTb pp hpp] at ee
            cases ee
            exact .inr (.inl ⟨((Cd pp hpp).tab (hTb pp hpp)).isCodeTable, rfl, #[], mor, rfl, by rw [Array.empty_append]; exact hmm⟩)
          · exact .inl (keyL bb oo hbq ee)
        · by_cases hbq : bb ∈ cds.map (·.2)
          · obtain ⟨pp, hpp, epp⟩ := List.mem_map.mp hbq
            obtain ⟨mor, hmm⟩ := grL pp hpp
            rw [← epp]
            exact ⟨_, hmm⟩
          · exact ⟨oo, keyL bb oo hbq ee⟩
  cases hkl : K.lookup ad with
  | some oo =>
    have ee := KXs ad oo hkl
    rw [hat] at ee
    cases ee
    refine corL (fun bb => if bb ∈ cds.map (·.2) then some (.tbl #[]) else none) (fun pp hpp => if_pos (memTb pp hpp)) (fun bb => ?_) (.inr ⟨_, vz.toArray, _, hkl, rfl, rfl, rfl, by rw [List.size_toArray, lnV]; exact hln, by simpa using rvs⟩) (fun bb uu zz => ?_) (fun bb zz => ?_) fun zz => absurd (show (if ad ∈ cds.map (·.2) then some (HO.tbl #[]) else none) = none from if_neg aTb) zz
    · by_cases hbq : bb ∈ cds.map (·.2)
      · exact .inr (.inl hbq)
      · exact .inl (if_neg hbq)
    · by_cases hbq : bb ∈ cds.map (·.2)
      · have z' := (if_pos hbq).symm.trans zz
        cases z'
        exact isTb bb hbq
      · have z' := (if_neg hbq).symm.trans zz
        cases z'
    · by_cases hbq : bb ∈ cds.map (·.2)
      · exact .inr hbq
      · exact absurd (if_neg hbq) zz
  | none =>
    refine corL (fun bb => if bb = ad then some (.frz { cls := .type "list", data := .seq vz.toArray } (.lst (nz.map V.int))) else if bb ∈ cds.map (·.2) then some (.tbl #[]) else none) (fun pp hpp => (if_neg (show ¬ pp.2 = ad from fun zz => aTb (by rw [← zz]; exact memTb pp hpp))).trans (if_pos (memTb pp hpp))) (fun bb => ?_)
      (.inl (.inr ⟨{ cls := .type "list", data := .seq vz.toArray }, if_pos rfl⟩)) (fun bb uu zz => ?_) (fun bb zz => ?_) fun _ => hkl
    · by_cases hbq : bb = ad
      · exact .inr (.inr ⟨_, _, if_pos hbq⟩)
      · by_cases hbq2 : bb ∈ cds.map (·.2)
        · exact .inr (.inl hbq2)
        · exact .inl ((if_neg hbq).trans (if_neg hbq2))
    · by_cases hbq : bb = ad
      · have z' := (if_pos hbq).symm.trans zz
        cases z'
        rw [hbq]
        exact ⟨hat, by rw [List.length_map]; exact hln, vz, _, rvs, hat⟩
      · have z1 := (if_neg hbq).symm.trans zz
        by_cases hbq2 : bb ∈ cds.map (·.2)
        · have z' := (if_pos hbq2).symm.trans z1
          cases z'
          exact isTb bb hbq2
        · have z' := (if_neg hbq2).symm.trans z1
          cases z'
    · by_cases hbq : bb = ad
      · exact .inl hbq
      · by_cases hbq2 : bb ∈ cds.map (·.2)
        · exact .inr hbq2
        · exact absurd ((if_neg hbq).trans (if_neg hbq2)) zz
def LawAtL (l : PySem.W.OpenLaw) (w : World) (K : PySem.W.Frag) (CX : CXT) (k n : Nat) (x : Str) (mg : Str → Option Value) (fa : Addr) (h : Heap) : Prop :=
  ∃ (fd : FuncData) (cs : List (Addr × Addr)) (sp : Sp), (∀ p ∈ cs, h.get? p.2 = some { cls := .none, data := .fields #[] } ∧ K.lookup p.2 = none ∧ PySem.W.CodeHd h p.1 p.2) ∧ (∀ (s : Shared) (u : Value), BindsTo s fd ⟨[u], []⟩ [(x, u)]) ∧
    (∀ (H : Hp) (a : Addr) (ns : List Int), ns.length ≤ n → (∀ p ∈ cs, H p.2 = some (.tbl #[])) → OnlyT H → SqL K H a (ns.map V.int) → sp [.ref a] H (fun v _ => v = .bl true) fun _ _ _ => False) ∧
    (∀ base : Heap, K.In base → base.Ns mainGlobals mg → (∀ p ∈ cs, TabB base mg p.1 p.2) → FnOk l.prog w K mg base CX k fa fd [x] sp)
theorem walk_ofL {l : PySem.W.OpenLaw} {n k : Nat} {q : Program} {loose : List Str} {XP : (Str → Option Value) → Heap → Prop} {YP : World → Heap → Prop} {d : DefRec} {CX : CXT} {x : Str} (hn : l.most = some n) (hn2 : n ≤ sizeLine) (hdf : d.params.defaults = []) (hr : Room k callerA)
    (F : ∀ (w : World) (mg : Str → Option Value) (fa : Addr) (h : Heap), YP w h → h.Ns mainGlobals mg → mg d.name = some (.ref fa) → ∃ K : PySem.W.Frag, K.In h ∧ LawAtL l w K CX k n x mg fa h)
    (hCX : ∀ (H : Hp) (s : Shared) (e : Value) (s' : Shared), CX [] H s (fun _ _ _ => False) e s' → False) : PySem.W.WalkO q loose XP YP l.row.toRowW d [] (fun f vs => PySem.call f vs) := by
  refine Att.attach_callB hn hdf fun w s₀ s₁ mg mb fa o pm cd doc a vs ns GG YY ho hd hcd hmg hobj hints hlen hbits hg => ?_
  obtain ⟨K, KX, fd, cs, sp, hcs, hb, hsp, hF⟩ := F w mg fa _ YY GG.T.g hmg
  exact law_callL KX GG.T.g GG.T.b GG.T.builtins GG.T.nolimit hg (fun p hp => (hcs p hp).1) (fun p hp => (hcs p hp).2.1) (fun p hp => (hcs p hp).2.2) GG.T.bmain hobj hints (Nat.le_trans hlen hn2) hr hF hb (fun H hH hO hS => hsp H a ns hlen hH hO hS) fun H e s' => hCX H s₁ e s'
end LK
namespace PF
open PySem PySem.Spec PyProof.Rows L2 LK LamX
def frL (n : Nat) (g : Addr → Option Obj) : PySem.W.Frag := He.frT g (cStatics :: He.asD g n)
def lamB (tf : List Str) (K : PySem.W.Frag) : Bool := decide (lamT K = tf.map fun n => ((lamAd K n).2, lamQ n))
def tfD (tf : List Str) : List He.Defn := tf.map fun n => (n, none)
structure SaysL (fa : List He.Fa) (fn : List He.DefD) (tf : List Str) (ex : List (PySem.W.Frag → Bool)) (h : Heap) (K : PySem.W.Frag) : Prop where
  d : He.SaysD fa fn K
  more : (ex.all fun c => c K) = true
  tabs : ∀ n ∈ tf, h.get? (lamAd K n).2 = some { cls := .none, data := .fields #[] } ∧ K.lookup (lamAd K n).2 = none ∧ PySem.W.codeHdIn K (lamAd K n).1 (lamAd K n).2 = true
def obsL (n : Nat) (fa : List He.Fa) (fn : List He.DefD) (tf : List Str) (ex : List (PySem.W.Frag → Bool)) (g : Addr → Option Obj) : He.AlD × Bool := (He.obsD fa fn (frL n g), (ex.all fun c => c (frL n g)) && He.tabsB g (tfD tf) (frL n g))
theorem saysL_of {n : Nat} {fa : List He.Fa} {fn : List He.DefD} {tf : List Str} {ex : List (PySem.W.Frag → Bool)} {h : Heap} (e : obsL n fa fn tf ex h.get? = (He.valD fn, true)) : SaysL fa fn tf ex h (frL n h.get?) := by
  have e1 : He.obsD fa fn (frL n h.get?) = He.valD fn := congrArg Prod.fst e
  have e2 : ((ex.all fun c => c (frL n h.get?)) && He.tabsB h.get? (tfD tf) (frL n h.get?)) = true := congrArg Prod.snd e
  obtain ⟨h1, h2⟩ := (Bool.and_eq_true _ _).mp e2
  refine ⟨e1, h1, fun x hx => ?_⟩
  have h3 := List.all_eq_true.mp h2 (x, none) (List.mem_map.mpr ⟨x, hx, rfl⟩)
  obtain ⟨h4, h5⟩ := (Bool.and_eq_true _ _).mp h3
  cases q : h.get? (He.cT (frL n h.get?) (x, none)).2 with
  | none => rw [q] at h5; cases h5
  | some o =>
    rw [q] at h5
    exact ⟨by show h.get? (He.cT (frL n h.get?) (x, none)).2 = _; rw [q, He.emptyTab_eq h5], He.frT_none q h5, h4⟩
def hookL (n : Nat) (fa : List He.Fa) (fn : List He.DefD) (tf : List Str) (ex : List (PySem.W.Frag → Bool)) : PySem.W.Hook where
  α := He.AlD × Bool
  obs := fun s => obsL n fa fn tf ex s.heap.get?
  val := fun _ => (He.valD fn, true)
  says := fun _ h => ∃ K : PySem.W.Frag, K.In h ∧ SaysL fa fn tf ex h K
  of := fun _ _ e => ⟨_, He.frT_in, saysL_of e⟩
  keeps := fun _ _ _ ⟨K, hK, c⟩ k => ⟨K, PySem.W.Frag.In.keeps hK k, ⟨c.d, c.more, fun x hx => ⟨k _ _ (c.tabs x hx).1, (c.tabs x hx).2⟩⟩⟩
theorem obsL_eq {n : Nat} {fa : List He.Fa} {fn : List He.DefD} {tf : List Str} {ex : List (PySem.W.Frag → Bool)} {g : Addr → Option Obj} {s : Shared} (h : ∀ a, g a = s.heap.get? a) : obsL n fa fn tf ex g = (hookL n fa fn tf ex).obs s := by
  have e : g = s.heap.get? := funext h
  rw [e] <;> rfl
section
variable {P : Program} {w : World} {K : PySem.W.Frag}
theorem law_spL {H : Hp} {a : Addr} {ns : List Int} {f : List D → Option D} {tf : List Str} (hl : lamB tf K = true) (hT : ∀ n ∈ tf, H (lamAd K n).2 = some (.tbl #[])) (hO : OnlyT H) (h : SqL K H a (ns.map V.int)) (hf : f [scrD ns] = some (.bool true)) : spF K 1 f [.ref a] H (fun v _ => v = .bl true) fun _ _ _ => False := by
  have hl' : lamT K = tf.map fun n => ((lamAd K n).2, lamQ n) := of_decide_eq_true hl
  refine ⟨fun b => match H b with | some (.tbl _) => none | o => o, [scrD ns], .bool true, ⟨fun p hp => ?_, fun p hp => ?_⟩, fun b o e => ?_, .cons (.scr ?_) .nil, rfl, hf, fun v H' G' _ r => by cases r; rfl⟩
  · rw [hl'] at hp
    obtain ⟨n, hn, e⟩ := List.mem_map.mp hp
    rw [← e]
    exact TabS.nil (hT n hn)
  · rw [hl'] at hp
    obtain ⟨n, hn, e⟩ := List.mem_map.mp hp
    rw [← e]
    show (match H (lamAd K n).2 with | some (.tbl _) => none | o => o) = none
    rw [hT n hn]
  · have e' : (match H b with | some (.tbl _) => none | o => o) = some o := e
    split at e'
    · cases e'
    · exact e'
  · rcases h with (h | ⟨o, h⟩) | h
    · rcases hO a with z | ⟨ps, z⟩ | ⟨o, ys, z⟩
      · rw [z] at h; cases h
      · rw [z] at h; cases h
      · rw [z] at h; cases h
    · refine .inl ⟨o, ?_⟩
      show (match H a with | some (.tbl _) => none | o => o) = _
      rw [h]
    · exact .inr h
theorem lamD_of {mg : Str → Option Value} {base : Heap} {x : Str} {tf : List Str} (hl : lamB tf K = true) (hx : x ∈ tf) (tb : TabB base mg (lamAd K x).1 (lamAd K x).2) : LamD K mg base x (He.fAd K (x, none)) :=
  ⟨rfl, tb, by
    have hl' : lamT K = tf.map fun n => ((lamAd K n).2, lamQ n) := of_decide_eq_true hl
    rw [hl']
    exact List.mem_map.mpr ⟨x, hx, rfl⟩⟩
end
end PF
namespace K42
open PySem PySem.Spec PyProof.Rows L2 PF
def topS (i : Nat) : Stmt := PySem.Challenge.pw_likedways_k42_guilds_of_trades.main.body.getD i (.Pass ⟨0, 0, 0, 0⟩)
def dd_joined : He.DefD := ⟨("joined", none), "joined", "joined", defArgs (topS 2), defBody (topS 2), defScope (topS 2), [], []⟩
def dd_ways_to_hall : He.DefD := ⟨("ways_to_hall", none), "ways_to_hall", "ways_to_hall", defArgs (topS 4), defBody (topS 4), defScope (topS 4), [], []⟩
def dd_rank_of : He.DefD := ⟨("rank_of", none), "rank_of", "rank_of", defArgs (topS 6), defBody (topS 6), defScope (topS 6), [], []⟩
def dd_is_fit : He.DefD := ⟨("is_fit", none), "is_fit", "is_fit", defArgs (topS 7), defBody (topS 7), defScope (topS 7), [], []⟩
def dd_guild_of_trade : He.DefD := ⟨("guild_of_trade", none), "guild_of_trade", "guild_of_trade", defArgs (topS 8), defBody (topS 8), defScope (topS 8), [], []⟩
def dd_l_cell : He.DefD := ⟨("_law_cell", none), "_law_cell", "_law_cell", defArgs (topS 10), defBody (topS 10), defScope (topS 10), [], []⟩
def dd_l_draws : He.DefD := ⟨("_law_draws", none), "_law_draws", "_law_draws", defArgs (topS 11), defBody (topS 11), defScope (topS 11), [], []⟩
def dd_l_trade : He.DefD := ⟨("_law_trade", none), "_law_trade", "_law_trade", defArgs (topS 12), defBody (topS 12), defScope (topS 12), [], []⟩
def dd_l_all : He.DefD := ⟨("_law_all", none), "_law_all", "_law_all", defArgs (topS 13), defBody (topS 13), defScope (topS 13), [], []⟩
def dd_l_sort : He.DefD := ⟨("_law_sort", none), "_law_sort", "_law_sort", defArgs (topS 14), defBody (topS 14), defScope (topS 14), [], []⟩
def dd_l_fit : He.DefD := ⟨("_law_fit", none), "_law_fit", "_law_fit", defArgs (topS 15), defBody (topS 15), defScope (topS 15), [], []⟩
def dd_law : He.DefD := ⟨("law", none), "law", "law", defArgs (topS 16), defBody (topS 16), defScope (topS 16), [], []⟩
def hFn : List He.DefD := [dd_joined, dd_ways_to_hall, dd_rank_of, dd_is_fit, dd_guild_of_trade, dd_l_cell, dd_l_draws, dd_l_trade, dd_l_all, dd_l_sort, dd_l_fit, dd_law]
def hFa : List He.Fa := [He.Fa.glo "joined", He.Fa.glo "ways_to_hall", He.Fa.glo "rank_of", He.Fa.glo "is_fit", He.Fa.glo "guild_of_trade", He.Fa.glo "_law_cell", He.Fa.glo "_law_draws", He.Fa.glo "_law_trade", He.Fa.glo "_law_all", He.Fa.glo "_law_sort", He.Fa.glo "_law_fit", He.Fa.glo "law"] ++ ([He.Fa.int "LIKED" (6)] : List He.Fa) ++ bltNames.map He.Fa.free
abbrev R : PySem.W.OpenRow := PySem.W.OpenLaw.row PySem.Challenge.rw_likedways_k42_guilds_of_trades
def hEx : List (PySem.W.Frag → Bool) := [lamB ["guild_of_trade"]]
abbrev hTf : List Str := ["guild_of_trade"]
abbrev hk : PySem.W.Hook := hookL 4 hFa hFn hTf hEx
def ob (s : PySem.W.SharedT) : He.AlD × Bool := obsL 4 hFa hFn hTf hEx (HandSHeadRun.getT s)
theorem ob_eq (s : PySem.W.SharedT) : ob s = hk.obs s.abs := obsL_eq (HandSHeadRun.getT_eq s)
def others : List Str := (["joined", "ways_to_hall", "rank_of", "is_fit", "guild_of_trade", "_law_cell", "_law_draws", "_law_trade", "_law_all", "_law_sort", "_law_fit", "LIKED"] : List Str)
set_option maxHeartbeats 0 in
theorem run (w : World) : HandSHeadRun.RunEq R (PySem.W.view R.prog [16]) hk ob 20000 others w := by
  intro os
  kernel_rfl
theorem lam0 {K : PySem.W.Frag} (h : (hEx.all fun c => c K) = true) : lamB ["guild_of_trade"] K = true := List.all_eq_true.mp h (lamB ["guild_of_trade"]) (List.mem_of_getElem? (i := 0) rfl)
end K42
namespace PF
open PySem PySem.Spec PyProof.Rows L2
def W {α : Type} (o : Option α) (Q : α → Prop) : Prop := ∃ a, o = some a ∧ Q a
theorem W.mono {α : Type} {o : Option α} {P Q : α → Prop} (h : W o P) (k : ∀ a, P a → Q a) : W o Q := h.imp fun a h => ⟨h.1, k a h.2⟩
theorem W.of {α : Type} {o : Option α} {Q : α → Prop} {a : α} (e : o = some a) (h : Q a) : W o Q := ⟨a, e, h⟩
theorem W_some {α : Type} (a : α) (Q : α → Prop) : W (some a) Q = Q a := propext ⟨fun ⟨_, e, h⟩ => by cases e; exact h, fun h => ⟨a, rfl, h⟩⟩
theorem W_none {α : Type} (Q : α → Prop) : W (none : Option α) Q = False := propext ⟨fun ⟨_, e, _⟩ => (by cases e), fun h => False.elim h⟩
theorem W_bind {α β : Type} (o : Option α) (f : α → Option β) (Q : β → Prop) : W (o.bind f) Q = W o fun a => W (f a) Q := by
  cases o with
  | none => rw [Option.bind_none, W_none, W_none]
  | some a => rw [Option.bind_some, W_some]
theorem W_map {α β : Type} (o : Option α) (f : α → β) (Q : β → Prop) : W (o.map f) Q = W o fun a => Q (f a) := by
  cases o with
  | none => rw [Option.map_none, W_none, W_none]
  | some a => rw [Option.map_some, W_some, W_some]
theorem W_if {α : Type} (c : Prop) [Decidable c] (a : α) (Q : α → Prop) : W (if c then some a else none) Q = (c ∧ Q a) := by
  by_cases h : c
  · rw [if_pos h, W_some]; simp [h]
  · rw [if_neg h, W_none]; simp [h]
def Kn (F : DenS) (Q : Out → Prop) : Out → Prop
  | .next ρ => W (F ρ) Q
  | o => Q o
def Pt (ρ : Env) (i : Nat) (s : SV) (K : Env → Prop) : Prop := K (ρ.set i (some s))
def Lo (ρ : Env) (i : Nat) (K : List D → Prop) : Prop := ∃ xs, ρ[i]? = some (some (.own xs)) ∧ K xs
def Bz (d : D) (A B : Prop) : Prop := ∃ b, d = .bool b ∧ (b = true → A) ∧ (b = false → B)
def Bv (d : D) (Q : Bool → Prop) : Prop := ∃ b, d = .bool b ∧ Q b
def Iv (d : D) (Q : Int → Prop) : Prop := ∃ i, d = .int i ∧ Q i
def itm : D → Option (List D)
  | .list ds => some ds
  | .tuple ds => some ds
  | _ => none
def itmK : D → Option (List D)
  | .dict ((.bool true, .none) :: kvs) => some (kvs.map (·.1))
  | .str z => if z.length ≤ sizeLine then some (sgns z) else none
  | d => itm d
def Rt (P : D → Prop) : Out → Prop
  | .ret d => P d
  | .next _ => P .none
  | _ => False
theorem W_run {n : Nat} {F : DenS} {ds : List D} {P : D → Prop} (h : W (F (toEnv n ds)) (Rt P)) : W (runF n F ds) P := by
  obtain ⟨o, e, h⟩ := h
  unfold runF
  rw [e]
  cases o with
  | ret d => exact ⟨d, rfl, h⟩
  | next ρ => exact ⟨_, rfl, h⟩
  | brk ρ => exact h.elim
  | cont ρ => exact h.elim
  | reto d => exact h.elim
def Ro (P : D → Prop) : Out → Prop
  | .reto d => P d
  | .next _ => P .none
  | _ => False
theorem Ro_r (P : D → Prop) (d : D) : Ro P (.reto d) = P d := rfl
theorem Ro_n (P : D → Prop) (ρ : Env) : Ro P (.next ρ) = P .none := rfl
theorem Bz_t (A B : Prop) : Bz (.bool true) A B = A := propext ⟨fun ⟨b, e, h, _⟩ => by cases e; exact h rfl, fun h => ⟨true, rfl, fun _ => h, fun z => by cases z⟩⟩
theorem Bz_f (A B : Prop) : Bz (.bool false) A B = B := propext ⟨fun ⟨b, e, _, h⟩ => by cases e; exact h rfl, fun h => ⟨false, rfl, fun z => (by cases z), fun _ => h⟩⟩
theorem Bz_d (p : Prop) [Decidable p] (A B : Prop) : Bz (.bool (decide p)) A B = ((p → A) ∧ (¬p → B)) := by
  by_cases h : p
  · rw [decide_eq_true h, Bz_t]; simp [h]
  · rw [decide_eq_false h, Bz_f]; simp [h]
theorem Bv_b (b : Bool) (Q : Bool → Prop) : Bv (.bool b) Q = Q b := propext ⟨fun ⟨_, e, h⟩ => by cases e; exact h, fun h => ⟨b, rfl, h⟩⟩
theorem Iv_i (i : Int) (Q : Int → Prop) : Iv (.int i) Q = Q i := propext ⟨fun ⟨_, e, h⟩ => by cases e; exact h, fun h => ⟨i, rfl, h⟩⟩
section
variable (f g h f1 f2 f3 : Den) (F F' : DenS) (ρ : Env) (Q : D → Prop) (R : Out → Prop) (i : Nat) (fs : List Den) (x : Option SV)
theorem W_d2 (a : D → D → Option D) : W (d2 a f g ρ) Q = W (f ρ) fun x => W (g ρ) fun y => W (a x y) Q := by unfold d2; rw [W_bind]; simp only [W_bind]
theorem W_d1 (a : D → Option D) : W (d1 a f ρ) Q = W (f ρ) fun x => W (a x) Q := by unfold d1; rw [W_bind]
theorem W_dC (d : D) : W (dC d ρ) Q = Q d := W_some d Q
theorem W_v0 (d : D) : W (dVar 0 (some (.val d) :: ρ)) Q = Q d := W_some d Q
theorem W_vs : W (dVar (i + 1) (x :: ρ)) Q = W (dVar i ρ) Q := rfl
theorem W_b0 (d : D) : W (dVarB 0 (some (.val d) :: ρ)) Q = Q d := W_some d Q
theorem W_bo (ds : List D) : W (dVarB 0 (some (.own ds) :: ρ)) Q = Q (.list ds) := W_some _ Q
theorem W_bs : W (dVarB (i + 1) (x :: ρ)) Q = W (dVarB i ρ) Q := rfl
theorem W_seq : W (dSeq F F' ρ) R = W (F ρ) (Kn F' R) := by
  unfold dSeq
  cases e : F ρ with
  | none => simp only [W_none]
  | some o => cases o <;> simp only [W_some] <;> rfl
theorem Kn_n : Kn F R (.next ρ) = W (F ρ) R := rfl
theorem Kn_r (d : D) : Kn F R (.ret d) = R (.ret d) := rfl
theorem Kn_o (d : D) : Kn F R (.reto d) = R (.reto d) := rfl
theorem Kn_b : Kn F R (.brk ρ) = R (.brk ρ) := rfl
theorem Kn_c : Kn F R (.cont ρ) = R (.cont ρ) := rfl
theorem Pt_0 (s : SV) (K : Env → Prop) : Pt (x :: ρ) 0 s K = K (some s :: ρ) := rfl
theorem Pt_s (s : SV) (K : Env → Prop) : Pt (x :: ρ) (i + 1) s K = Pt ρ i s fun ρ' => K (x :: ρ') := rfl
theorem Lo_0 (ds : List D) (K : List D → Prop) : Lo (some (.own ds) :: ρ) 0 K = K ds := propext ⟨fun ⟨_, e, h⟩ => by cases e; exact h, fun h => ⟨ds, rfl, h⟩⟩
theorem Lo_s (K : List D → Prop) : Lo (x :: ρ) (i + 1) K = Lo ρ i K := rfl
theorem W_set : W (dSet i f ρ) R = W (f ρ) fun d => Pt ρ i (.val d) fun ρ' => R (.next ρ') := by unfold dSet; rw [W_map]; rfl
def Lv (d : D) (K : List D → Prop) : Prop := ∃ xs, d = .list xs ∧ K xs
theorem Lv_l (xs : List D) (K : List D → Prop) : Lv (.list xs) K = K xs := propext ⟨fun ⟨_, e, h⟩ => by cases e; exact h, fun h => ⟨xs, rfl, h⟩⟩
theorem W_own : W (dOwn i f ρ) R = W (f ρ) fun d => Lv d fun xs => Pt ρ i (.own xs) fun ρ' => R (.next ρ') := by
  unfold dOwn
  cases e : f ρ with
  | none => simp only [W_none]
  | some d =>
    cases d with
    | list xs => simp only [W_some, Lv_l]; rfl
    | _ => simp only [W_none, W_some]; exact propext ⟨fun z => False.elim z, fun ⟨_, e, _⟩ => by cases e⟩
theorem W_ret : W (dRet f ρ) R = W (f ρ) fun d => R (.ret d) := by unfold dRet; rw [W_map]
theorem W_retO : W (dRetO f ρ) R = W (f ρ) fun d => R (.reto d) := by unfold dRetO; rw [W_map]
theorem W_ro0 (ds : List D) : W (dRO 0 (some (.own ds) :: ρ)) Q = Q (.list ds) := W_some _ _
theorem W_rov (d : D) : W (dRO 0 (some (.val d) :: ρ)) Q = (noL d = true ∧ Q d) := W_if _ _ _
theorem W_ros : W (dRO (i + 1) (x :: ρ)) Q = W (dRO i ρ) Q := rfl
theorem W_callK (G : List D → List D → Option D) (zs : List Den) : W (dCallK G fs zs ρ) Q = W (dArgs fs ρ) fun ds => W (dArgs zs ρ) fun es => W (G ds es) Q := by unfold dCallK; simp only [W_bind]
theorem W_ifS : W (dIfS f F F' ρ) R = W (f ρ) fun d => Bz d (W (F ρ) R) (W (F' ρ) R) := by
  unfold dIfS
  cases e : f ρ with
  | none => simp only [W_none]
  | some d =>
    cases d with
    | bool b => cases b <;> simp only [W_some, Bz_t, Bz_f]
    | _ => simp only [W_none, W_some]; exact propext ⟨fun z => False.elim z, fun ⟨_, e, _⟩ => by cases e⟩
theorem W_dT (Q : Bool → Prop) : W (dT f ρ) Q = W (f ρ) fun d => Bv d Q := by
  unfold dT
  cases e : f ρ with
  | none => simp only [W_none]
  | some d =>
    cases d with
    | bool b => simp only [W_some, Bv_b]
    | _ => simp only [W_none, W_some]; exact propext ⟨fun z => False.elim z, fun ⟨_, e, _⟩ => by cases e⟩
theorem W_and : W (dAnd f g ρ) Q = W (f ρ) fun d => Bz d (W (g ρ) Q) (Q (.bool false)) := by
  unfold dAnd
  cases e : f ρ with
  | none => simp only [W_none]
  | some d =>
    cases d with
    | bool b => cases b <;> simp only [W_some, Bz_t, Bz_f]
    | _ => simp only [W_none, W_some]; exact propext ⟨fun z => False.elim z, fun ⟨_, e, _⟩ => by cases e⟩
theorem W_or : W (dOr f g ρ) Q = W (f ρ) fun d => Bz d (Q (.bool true)) (W (g ρ) Q) := by
  unfold dOr
  cases e : f ρ with
  | none => simp only [W_none]
  | some d =>
    cases d with
    | bool b => cases b <;> simp only [W_some, Bz_t, Bz_f]
    | _ => simp only [W_none, W_some]; exact propext ⟨fun z => False.elim z, fun ⟨_, e, _⟩ => by cases e⟩
theorem W_if3 : W (dIf f g h ρ) Q = W (f ρ) fun d => Bz d (W (g ρ) Q) (W (h ρ) Q) := by
  unfold dIf
  cases e : f ρ with
  | none => simp only [W_none]
  | some d =>
    cases d with
    | bool b => cases b <;> simp only [W_some, Bz_t, Bz_f]
    | _ => simp only [W_none, W_some]; exact propext ⟨fun z => False.elim z, fun ⟨_, e, _⟩ => by cases e⟩
theorem W_not : W (dNot f ρ) Q = W (f ρ) fun d => Bv d fun b => Q (.bool (!b)) := by
  unfold dNot
  cases e : f ρ with
  | none => simp only [W_none]
  | some d =>
    cases d with
    | bool b => simp only [W_some, Bv_b]
    | _ => simp only [W_none, W_some]; exact propext ⟨fun z => False.elim z, fun ⟨_, e, _⟩ => by cases e⟩
theorem W_chain (a a' : D → D → Option D) : W (dChain a a' f1 f2 f3 ρ) Q = W (f1 ρ) fun x => W (f2 ρ) fun y => W (a x y) fun d => Bz d (W (f3 ρ) fun z => W (a' y z) Q) (Q (.bool false)) := by
  unfold dChain
  rw [W_bind]
  refine congrArg _ (funext fun x => ?_)
  rw [W_bind]
  refine congrArg _ (funext fun y => ?_)
  cases e : a x y with
  | none => simp only [W_none]
  | some d =>
    cases d with
    | bool b => cases b <;> simp only [W_some, Bz_t, Bz_f, W_bind]
    | _ => simp only [W_none, W_some]; exact propext ⟨fun z => False.elim z, fun ⟨_, e, _⟩ => by cases e⟩
theorem W_a0 (Q : List D → Prop) : W (dArgs [] ρ) Q = Q [] := W_some _ _
theorem W_as (Q : List D → Prop) : W (dArgs (f :: fs) ρ) Q = W (f ρ) fun x => W (dArgs fs ρ) fun xs => Q (x :: xs) := by
  show W ((f ρ).bind fun x => (dArgs fs ρ).bind fun xs => some (x :: xs)) Q = _
  simp only [W_bind, W_some]
theorem W_tup : W (dTup fs ρ) Q = W (dArgs fs ρ) fun xs => Q (.tuple xs) := by unfold dTup; rw [W_map]
theorem W_lst : W (dLst fs ρ) Q = W (dArgs fs ρ) fun xs => Q (.list xs) := by unfold dLst; rw [W_map]
theorem W_call (a : List D → Option D) : W (dCall a fs ρ) Q = W (dArgs fs ρ) fun xs => W (a xs) Q := by unfold dCall; rw [W_bind]
theorem W_addI (i j : Int) : W (aAdd (.int i) (.int j)) Q = Q (.int (i + j)) := W_some _ _
theorem W_addL (xs ys : List D) : W (aAdd (.list xs) (.list ys)) Q = (xs.length + ys.length ≤ sizeLine ∧ Q (.list (xs ++ ys))) := W_if _ _ _
theorem W_addT (xs ys : List D) : W (aAdd (.tuple xs) (.tuple ys)) Q = (xs.length + ys.length ≤ sizeLine ∧ Q (.tuple (xs ++ ys))) := W_if _ _ _
theorem W_subI (i j : Int) : W (aSub (.int i) (.int j)) Q = Q (.int (i - j)) := W_some _ _
theorem W_modI (i j : Int) : W (aMod (.int i) (.int j)) Q = (0 < j ∧ Q (.int (i % j))) := by unfold aMod aInt2; rw [W_if]; simp only [decide_eq_true_eq]
theorem W_divI (i j : Int) : W (aDiv (.int i) (.int j)) Q = ((0 < j ∧ j < 1073741824) ∧ Q (.int (i / j))) := by unfold aDiv aInt2 cDiv; rw [W_if]; simp only [decide_eq_true_eq, Bool.and_eq_true]
theorem W_powI (i j : Int) : W (aPow (.int i) (.int j)) Q = (cPow i j = true ∧ Q (.int (i ^ j.toNat))) := by unfold aPow aInt2; rw [W_if]
theorem W_mulI (i j : Int) : W (aMul (.int i) (.int j)) Q = (((-18446744073709551616 < i ∧ i < 18446744073709551616) ∨ (-18446744073709551616 < j ∧ j < 18446744073709551616)) ∧ Q (.int (i * j))) := by
  unfold aMul cMul big64
  rw [W_if]
  simp only [decide_eq_true_eq, Bool.and_eq_true, Bool.or_eq_true]
  rfl
theorem W_mulT (xs : List D) (k : Int) : W (aMul (.tuple xs) (.int k)) Q = ((xs ≠ [] ∧ 1 ≤ k ∧ k ≤ 1000 ∧ xs.length ≤ 1000) ∧ Q (.tuple (List.replicate k.toNat xs).flatten)) := W_if _ _ _
theorem W_mulL (xs : List D) (k : Int) : W (aMul (.list xs) (.int k)) Q = ((k < 2 ^ 63 ∧ -(2 ^ 63) ≤ k ∧ xs.length * k.toNat ≤ sizeLine) ∧ Q (.list (List.replicate k.toNat xs).flatten)) := W_if _ _ _
theorem W_negI (i : Int) : W (aNeg (.int i)) Q = Q (.int (-i)) := W_some _ _
theorem eqv_int (i j : Int) : PyData.eqv (.int i) (.int j) = decide (i = j) := by simp only [PyData.eqv]; rw [Bool.eq_iff_iff, beq_iff_eq, decide_eq_true_eq]
theorem W_eqI (i j : Int) : W (aCmp .Eq (.int i) (.int j)) Q = Q (.bool (decide (i = j))) := by
  show W (aEq _ _) Q = _
  unfold aEq
  rw [if_pos ⟨by simp [SeqAt.shaped, PyData.canLay0, PyData.depth], by simp [SeqAt.shaped, PyData.canLay0, PyData.depth]⟩, W_some, eqv_int]
theorem W_neI (i j : Int) : W (aCmp .NotEq (.int i) (.int j)) Q = Q (.bool (decide (¬i = j))) := by
  show W (aNe _ _) Q = _
  unfold aNe
  rw [if_pos ⟨by simp [SeqAt.shaped, PyData.canLay0, PyData.depth], by simp [SeqAt.shaped, PyData.canLay0, PyData.depth]⟩, W_some, eqv_int, decide_not]
theorem W_ltI (i j : Int) : W (aCmp .Lt (.int i) (.int j)) Q = Q (.bool (decide (i < j))) := W_some _ _
theorem W_leI (i j : Int) : W (aCmp .LtE (.int i) (.int j)) Q = Q (.bool (decide (i ≤ j))) := W_some _ _
theorem W_gtI (i j : Int) : W (aCmp .Gt (.int i) (.int j)) Q = Q (.bool (decide (j < i))) := W_some _ _
theorem W_geI (i j : Int) : W (aCmp .GtE (.int i) (.int j)) Q = Q (.bool (decide (j ≤ i))) := W_some _ _
theorem W_isN : W (aCmp .Is .none .none) Q = Q (.bool true) := W_some _ _
theorem W_isT (ds : List D) : W (aCmp .Is (.tuple ds) .none) Q = Q (.bool false) := W_some _ _
theorem W_isL (ds : List D) : W (aCmp .Is (.list ds) .none) Q = Q (.bool false) := W_some _ _
theorem W_isI (j : Int) : W (aCmp .Is (.int j) .none) Q = Q (.bool false) := W_some _ _
theorem W_inN : W (aCmp .IsNot .none .none) Q = Q (.bool false) := W_some _ _
theorem W_inT (ds : List D) : W (aCmp .IsNot (.tuple ds) .none) Q = Q (.bool true) := W_some _ _
theorem W_inL (ds : List D) : W (aCmp .IsNot (.list ds) .none) Q = Q (.bool true) := W_some _ _
theorem W_inI (j : Int) : W (aCmp .IsNot (.int j) .none) Q = Q (.bool true) := W_some _ _
theorem W_ixL (ds : List D) (j : Int) : W (aIx (.list ds) (.int j)) Q = W (atI ds j) Q := rfl
theorem W_ixT (ds : List D) (j : Int) : W (aIx (.tuple ds) (.int j)) Q = W (atI ds j) Q := rfl
theorem W_ixS (ns : List Int) (j : Int) : W (aIx (scrD ns) (.int j)) Q = W (atI (ns.map PyData.int) j) Q := by
  show W (atI ((ns.map fun n => (PyData.int n, PyData.none)).map (·.1)) j) Q = _
  rw [List.map_map]
  rfl
theorem W_at0 (d : D) (r : List D) : W (atI (d :: r) 0) Q = Q d := by rw [show (0 : Int) = ((0 : Nat) : Int) from rfl, atI_nat (v := d) rfl, W_some]
theorem W_at1 (c d : D) (r : List D) : W (atI (c :: d :: r) 1) Q = Q d := by rw [show (1 : Int) = ((1 : Nat) : Int) from rfl, atI_nat (v := d) rfl, W_some]
theorem W_at2 (b c d : D) (r : List D) : W (atI (b :: c :: d :: r) 2) Q = Q d := by rw [show (2 : Int) = ((2 : Nat) : Int) from rfl, atI_nat (v := d) rfl, W_some]
theorem W_cut (lo hi : Option Den) : W (dCut f lo hi ρ) Q = W (f ρ) fun x => W (dOpt lo ρ) fun l => W (dOpt hi ρ) fun h => W (aCut x l h) Q := by unfold dCut; simp only [W_bind]
theorem W_cutL (ds : List D) (l h : Option Int) : W (aCut (.list ds) l h) Q = Q (.list (cutD ds l h)) := W_some _ _
theorem W_cutT (ds : List D) (l h : Option Int) : W (aCut (.tuple ds) l h) Q = Q (.tuple (cutD ds l h)) := W_some _ _
theorem W_o0 (Q : Option Int → Prop) : W (dOpt none ρ) Q = Q none := W_some _ _
theorem W_os (Q : Option Int → Prop) : W (dOpt (some f) ρ) Q = W (f ρ) fun d => Iv d fun i => Q (some i) := by
  unfold dOpt
  cases e : f ρ with
  | none => simp only [W_none, e]
  | some d =>
    cases d with
    | int b => simp only [W_some, Iv_i, e]
    | _ => simp only [W_none, W_some, e]; exact propext ⟨fun z => False.elim z, fun ⟨_, e, _⟩ => by cases e⟩
theorem W_lenL (ds : List D) : W (bLen [.list ds]) Q = Q (.int ds.length) := W_some _ _
theorem W_lenT (ds : List D) : W (bLen [.tuple ds]) Q = Q (.int ds.length) := W_some _ _
theorem W_lenS (ns : List Int) : W (bLen [scrD ns]) Q = Q (.int ns.length) := by
  show W (some (PyData.int (ns.map fun n => (PyData.int n, PyData.none)).length)) Q = _
  rw [W_some, List.length_map]
theorem W_min (i j : Int) : W (bMin [.int i, .int j]) Q = Q (.int (min i j)) := by
  show W (some (PyData.int (if j < i then j else i))) Q = _
  rw [W_some]
  congr 2
  omega
theorem W_max (i j : Int) : W (bMax [.int i, .int j]) Q = Q (.int (max i j)) := by
  show W (some (PyData.int (if j > i then j else i))) Q = _
  rw [W_some]
  congr 2
  omega
theorem W_tupL (ds : List D) : W (bTuple [.list ds]) Q = Q (.tuple ds) := W_some _ _
theorem W_tupT (ds : List D) : W (bTuple [.tuple ds]) Q = Q (.tuple ds) := W_some _ _
theorem W_lstL (ds : List D) : W (bList [.list ds]) Q = Q (.list ds) := W_some _ _
theorem W_lstT (ds : List D) : W (bList [.tuple ds]) Q = Q (.list ds) := W_some _ _
theorem W_rg (Q : List D → Prop) : W (dRg f g ρ) Q = W (f ρ) fun x => W (g ρ) fun y => W (aRg x y) Q := by unfold dRg; simp only [W_bind]
theorem W_rgI (a b : Int) (Q : List D → Prop) : W (aRg (.int a) (.int b)) Q = (rgOk a b = true ∧ Q (rgD a b)) := W_if _ _ _
theorem W_lstOf (it : Env → Option (List D)) : W (dLstOf it ρ) Q = W (it ρ) fun xs => Q (.list xs) := by unfold dLstOf; rw [W_map]
theorem W_tupOf (it : Env → Option (List D)) : W (dTupOf it ρ) Q = W (it ρ) fun xs => Q (.tuple xs) := by unfold dTupOf; rw [W_map]
theorem W_items (Q : List D → Prop) : W (dItems f ρ) Q = W (f ρ) fun d => W (itmK d) Q := by
  unfold dItems
  cases e : f ρ with
  | none => simp only [W_none]
  | some d =>
    simp only [W_some]
    unfold itmK itm
    split <;> first | rfl | (rename_i h; cases h; rfl) | skip
    all_goals (cases d <;> first | rfl | (rename_i h1 h2 h3 h4; cases h4) | skip)
    all_goals simp_all
theorem W_itmL (ds : List D) (Q : List D → Prop) : W (itm (.list ds)) Q = Q ds := W_some _ _
theorem W_itmT (ds : List D) (Q : List D → Prop) : W (itm (.tuple ds)) Q = Q ds := W_some _ _
theorem W_enum (Q : List D → Prop) : W (dEnum f ρ) Q = W (f ρ) fun d => W (itm d) fun xs => Q (enumD 0 xs) := by
  unfold dEnum dItems0
  rw [W_map]
  cases e : f ρ with
  | none => simp only [W_none]
  | some d => cases d <;> simp only [W_some, itm, W_none]
theorem W_itKL (ds : List D) (Q : List D → Prop) : W (itmK (.list ds)) Q = Q ds := W_some _ _
theorem W_itKT (ds : List D) (Q : List D → Prop) : W (itmK (.tuple ds)) Q = Q ds := W_some _ _
theorem W_itKD (kvs : List (D × D)) (Q : List D → Prop) : W (itmK (dicD kvs)) Q = Q (kvs.map (·.1)) := W_some _ _
theorem W_for (it : Env → Option (List D)) (b : D → Env → Option Env) : W (dFor it b F ρ) R = W (it ρ) fun items => W (forL b F items ρ) R := by unfold dFor; rw [W_bind]
theorem W_comp (it : Env → Option (List D)) (vs : List Nat) (b : D → Env → Option Env) (c : Env → Option Bool) : W (dComp it vs b c f ρ) Q = W (it ρ) fun items => W (compL b c f (wipeE ρ vs) items) fun ys => Q (.list ys) := by unfold dComp; simp only [W_bind, W_map]
theorem W_name (d : D) (K : Env → Prop) : W (bName i d ρ) K = Pt ρ i (.val d) K := W_some _ _
theorem W_bTup (bs : List D → Env → Option Env) (ds : List D) (K : Env → Prop) : W (bTup bs (.tuple ds) ρ) K = W (bs ds ρ) K := rfl
theorem W_bCons (b : D → Env → Option Env) (bs : List D → Env → Option Env) (d : D) (ds : List D) (K : Env → Prop) : W (bCons b bs (d :: ds) ρ) K = W (b d ρ) fun ρ' => W (bs ds ρ') K := by unfold bCons; rw [W_bind]
theorem W_bNil (K : Env → Prop) : W (bNil [] ρ) K = K ρ := W_some _ _
theorem Lo_of {ρ : Env} {i : Nat} {xs : List D} (e : ρ[i]? = some (some (.own xs))) (K : List D → Prop) : Lo ρ i K = K xs := propext ⟨fun ⟨ys, e', h⟩ => by rw [e] at e'; cases e'; exact h, fun h => ⟨xs, e, h⟩⟩
theorem W_app : W (dAppend i f ρ) R = Lo ρ i fun xs => W (f ρ) fun d => xs.length < sizeLine ∧ Pt ρ i (.own (xs ++ [d])) fun ρ' => R (.next ρ') := by
  unfold dAppend
  split
  · rename_i xs e
    rw [Lo_of e, W_bind]
    simp only [W_if]
    rfl
  · rename_i hn
    rw [W_none]
    exact propext ⟨fun z => False.elim z, fun ⟨xs, e, _⟩ => hn xs e⟩
theorem W_setIx : W (dSetIx i g f ρ) R = Lo ρ i fun xs => W (f ρ) fun d => W (g ρ) fun k => Iv k fun k => W (ixN xs.length k) fun j => Pt ρ i (.own (xs.set j d)) fun ρ' => R (.next ρ') := by
  unfold dSetIx
  split
  · rename_i xs e
    rw [Lo_of e, W_bind]
    refine congrArg _ (funext fun d => ?_)
    cases e2 : g ρ with
    | none => simp only [W_none]
    | some k =>
      cases k with
      | int k => simp only [W_some, Iv_i, W_bind]; rfl
      | _ => simp only [W_none, W_some]; exact propext ⟨fun z => False.elim z, fun ⟨_, e, _⟩ => by cases e⟩
  · rename_i hn
    rw [W_none]
    exact propext ⟨fun z => False.elim z, fun ⟨xs, e, _⟩ => hn xs e⟩
theorem W_unp (b : D → Env → Option Env) : W (dUnp b f ρ) R = W (f ρ) fun d => W (b d ρ) fun ρ' => R (.next ρ') := by unfold dUnp; rw [W_bind]; simp only [W_map]
theorem W_star (n : Nat) (bs : List D → Env → Option Env) : W (dStar n bs f ρ) R = W (f ρ) fun d => W (itm d) fun ds => n ≤ ds.length ∧ W (bs (ds.take n ++ [.list (ds.drop n)]) ρ) fun ρ' => R (.next ρ') := by
  unfold dStar
  cases e : f ρ with
  | none => simp only [W_none]
  | some d =>
    cases d with
    | tuple ds =>
      simp only [W_some, itm]
      by_cases h : n ≤ ds.length
      · rw [if_pos h, W_map]; simp [h]
      · rw [if_neg h, W_none]; simp [h]
    | list ds =>
      simp only [W_some, itm]
      by_cases h : n ≤ ds.length
      · rw [if_pos h, W_map]; simp [h]
      · rw [if_neg h, W_none]; simp [h]
    | _ => simp only [W_none, W_some, itm]
end
theorem toE_c (n : Nat) (d : D) (ds : List D) : toEnv (n + 1) (d :: ds) = some (.val d) :: toEnv n ds := by unfold toEnv; simp
theorem toE_n (n : Nat) : toEnv (n + 1) [] = none :: toEnv n [] := by unfold toEnv; simp [List.replicate_succ]
theorem toE_0 : toEnv 0 [] = [] := rfl
theorem fz_nil (ρ : Env) : fzE ρ [] = ρ := rfl
theorem fz_cons (ρ : Env) (i : Nat) (is : List Nat) : fzE ρ (i :: is) = fzE (fz1 ρ i) is := rfl
theorem fz_0o (ρ : Env) (xs : List D) : fz1 (some (.own xs) :: ρ) 0 = some (.val (.list xs)) :: ρ := rfl
theorem fz_0v (ρ : Env) (d : D) : fz1 (some (.val d) :: ρ) 0 = some (.val d) :: ρ := rfl
theorem fz_0n (ρ : Env) : fz1 (none :: ρ) 0 = none :: ρ := rfl
theorem fz_0d (ρ : Env) (kvs : List (D × D)) : fz1 (some (.dic kvs) :: ρ) 0 = some (.val (dicD kvs)) :: ρ := rfl
theorem fz_s (ρ : Env) (x : Option SV) (i : Nat) : fz1 (x :: ρ) (i + 1) = x :: fz1 ρ i := by
  unfold fz1
  rw [List.getElem?_cons_succ]
  cases e : ρ[i]? with
  | none => rfl
  | some o => cases o with
    | none => rfl
    | some s => cases s <;> simp only [List.set_cons_succ]
theorem Rt_r (P : D → Prop) (d : D) : Rt P (.ret d) = P d := rfl
theorem Rt_n (P : D → Prop) (ρ : Env) : Rt P (.next ρ) = P .none := rfl
def ev_all := And.intro @W_some <| And.intro @W_itKL <| And.intro @W_itKT <| And.intro @W_itKD <| And.intro @W_d2 <| And.intro @W_d1 <| And.intro @W_dC <| And.intro @W_v0 <| And.intro @W_vs <| And.intro @W_b0 <| And.intro @W_bo <| And.intro @W_bs <| And.intro @W_seq <| And.intro @Kn_n <| And.intro @Kn_r <| And.intro @Kn_o <| And.intro @W_retO <| And.intro @W_ro0 <| And.intro @W_rov <| And.intro @W_ros <| And.intro @W_callK <| And.intro @Ro_r <| And.intro @Ro_n <| And.intro @Kn_b <| And.intro @Kn_c <| And.intro @Pt_0 <| And.intro @Pt_s <| And.intro @Lo_0 <| And.intro @Lo_s <| And.intro @W_set <| And.intro @Lv_l <| And.intro @W_own <| And.intro @W_ret <| And.intro @W_ifS <| And.intro @W_dT <| And.intro @W_and <| And.intro @W_or <| And.intro @W_if3 <| And.intro @W_not <| And.intro @W_chain <| And.intro @W_a0 <| And.intro @W_as <| And.intro @W_tup <| And.intro @W_lst <| And.intro @W_call <| And.intro @W_addI <| And.intro @W_addL <| And.intro @W_addT <| And.intro @W_subI <| And.intro @W_modI <| And.intro @W_divI <| And.intro @W_powI <| And.intro @W_mulI <| And.intro @W_mulT <| And.intro @W_mulL <| And.intro @W_negI <| And.intro @W_eqI <| And.intro @W_neI <| And.intro @W_ltI <| And.intro @W_leI <| And.intro @W_gtI <| And.intro @W_geI <| And.intro @W_isN <| And.intro @W_isT <| And.intro @W_isL <| And.intro @W_isI <| And.intro @W_inN <| And.intro @W_inT <| And.intro @W_inL <| And.intro @W_inI <| And.intro @W_ixL <| And.intro @W_ixT <| And.intro @W_ixS <| And.intro @W_at0 <| And.intro @W_at1 <| And.intro @W_at2 <| And.intro @W_cut <| And.intro @W_cutL <| And.intro @W_cutT <| And.intro @W_o0 <| And.intro @W_os <| And.intro @W_lenL <| And.intro @W_lenT <| And.intro @W_lenS <| And.intro @W_min <| And.intro @W_max <| And.intro @W_tupL <| And.intro @W_tupT <| And.intro @W_lstL <| And.intro @W_lstT <| And.intro @W_rg <| And.intro @W_rgI <| And.intro @W_lstOf <| And.intro @W_tupOf <| And.intro @W_items <| And.intro @W_itmL <| And.intro @W_itmT <| And.intro @W_enum <| And.intro @W_for <| And.intro @W_comp <| And.intro @W_name <| And.intro @W_bTup <| And.intro @W_bCons <| And.intro @W_bNil <| And.intro @W_app <| And.intro @W_setIx <| And.intro @W_unp <| And.intro @W_star <| And.intro @Bz_t <| And.intro @Bz_f <| And.intro @Bz_d <| And.intro @Bv_b <| And.intro @Iv_i <| And.intro @Rt_r <| @Rt_n
def ex_all := And.intro @toE_c <| And.intro @toE_n <| And.intro @toE_0 <| And.intro @fz_nil <| And.intro @fz_cons <| And.intro @fz_0o <| And.intro @fz_0v <| And.intro @fz_0n <| And.intro @fz_0d <| @fz_s
end PF
namespace PF
open PySem PySem.Spec PyProof.Rows L2
def Lp (I : Env → Prop) (P : Out → Prop) : Out → Prop
  | .next ρ => I ρ
  | .cont ρ => I ρ
  | .brk ρ => P (.next ρ)
  | .ret d => P (.ret d)
  | .reto d => P (.reto d)
theorem Lp_n (I : Env → Prop) (P : Out → Prop) (ρ : Env) : Lp I P (.next ρ) = I ρ := rfl
theorem W_forL {b : D → Env → Option Env} {F : DenS} {P : Out → Prop} (I : List D → Env → Prop) (he : ∀ ρ, I [] ρ → P (.next ρ)) (hs : ∀ x r ρ, I (x :: r) ρ → W (b x ρ) fun ρ1 => W (F ρ1) (Lp (I r) P)) : ∀ xs ρ, I xs ρ → W (forL b F xs ρ) P
  | [], ρ, h => ⟨_, rfl, he ρ h⟩
  | x :: xs, ρ, h => by
    obtain ⟨ρ1, e1, o, e2, h2⟩ := hs x xs ρ h
    unfold forL
    rw [e1, Option.bind_some, e2]
    cases o with
    | next ρ2 => exact W_forL I he hs xs ρ2 h2
    | cont ρ2 => exact W_forL I he hs xs ρ2 h2
    | brk ρ2 => exact ⟨_, rfl, h2⟩
    | ret d => exact ⟨_, rfl, h2⟩
    | reto d => exact ⟨_, rfl, h2⟩
theorem W_forN {b : D → Env → Option Env} {F : DenS} {P : Out → Prop} {xs : List D} {ρ : Env} (I : Nat → Env → Prop) (h0 : I 0 ρ) (he : ∀ ρ, I xs.length ρ → P (.next ρ)) (hs : ∀ i x ρ, xs[i]? = some x → I i ρ → W (b x ρ) fun ρ1 => W (F ρ1) (Lp (I (i + 1)) P)) : W (forL b F xs ρ) P := by
  refine W_forL (fun r ρ => ∃ i, r = xs.drop i ∧ i ≤ xs.length ∧ I i ρ) ?a ?b xs ρ ⟨0, rfl, Nat.zero_le _, h0⟩
  case a =>
    intro ρ ⟨i, h1, h3, h2⟩
    have : i = xs.length := by
      have := congrArg List.length h1
      simp at this
      omega
    subst this
    exact he ρ h2
  case b =>
    intro x r ρ ⟨i, h1, h3, h2⟩
    have hx : xs[i]? = some x := by
      have := congrArg (fun l : List D => l[0]?) h1
      simpa using this.symm
    have hi : i < xs.length := (List.getElem?_eq_some_iff.mp hx).1
    have hr : r = xs.drop (i + 1) := by
      have := congrArg List.tail h1
      simpa using this
    refine (hs i x ρ hx h2).mono fun ρ1 h => h.mono fun o h => ?_
    cases o with
    | next ρ2 => exact ⟨i + 1, hr, hi, h⟩
    | cont ρ2 => exact ⟨i + 1, hr, hi, h⟩
    | brk ρ2 => exact h
    | ret d => exact h
    | reto d => exact h
theorem rg_len (a b : Int) : (rgD a b).length = (b - a).toNat := by unfold rgD rgI; simp
theorem rg_get {a b : Int} {i : Nat} {x : D} (h : (rgD a b)[i]? = some x) : x = .int (a + i) ∧ (i : Int) < b - a := by
  have hi := (List.getElem?_eq_some_iff.mp h).1
  rw [rg_len] at hi
  unfold rgD rgI at h
  rw [List.map_map, List.getElem?_map, List.getElem?_range (by omega)] at h
  cases h
  exact ⟨rfl, by omega⟩
theorem rg_mem {a b : Int} {x : D} (h : x ∈ rgD a b) : ∃ n : Nat, x = .int (a + n) ∧ a + n < b := by
  obtain ⟨i, hi⟩ := List.getElem?_of_mem h
  obtain ⟨h1, h2⟩ := rg_get hi
  exact ⟨i, h1, by omega⟩
theorem W_forR {b : D → Env → Option Env} {F : DenS} {P : Out → Prop} {lo hi : Int} {ρ : Env} (I : Nat → Env → Prop) (h0 : I 0 ρ) (he : ∀ ρ, I (hi - lo).toNat ρ → P (.next ρ)) (hs : ∀ (i : Nat) ρ, (i : Int) < hi - lo → I i ρ → W (b (.int (lo + i)) ρ) fun ρ1 => W (F ρ1) (Lp (I (i + 1)) P)) : W (forL b F (rgD lo hi) ρ) P :=
  W_forN I h0 (by rw [rg_len]; exact he) fun i x ρ hx h => by
    obtain ⟨rfl, h2⟩ := rg_get hx
    exact hs i ρ h2 h
mutual
def pl : D → Nat → Bool
  | .none, _ => true
  | .int _, _ => true
  | .list xs, n + 1 => plAll xs n
  | .tuple xs, n + 1 => plAll xs n
  | _, _ => false
def plAll : List D → Nat → Bool
  | [], _ => true
  | x :: xs, n => pl x n && plAll xs n
end
theorem plAll_iff (n : Nat) : ∀ xs, plAll xs n = true ↔ ∀ x ∈ xs, pl x n = true
  | [] => by simp [plAll]
  | x :: xs => by rw [plAll, Bool.and_eq_true, plAll_iff n xs]; simp
theorem pl_tup {xs : List D} {n : Nat} (h : ∀ x ∈ xs, pl x n = true) : pl (.tuple xs) (n + 1) = true := by rw [pl]; exact (plAll_iff n xs).mpr h
theorem pl_lst {xs : List D} {n : Nat} (h : ∀ x ∈ xs, pl x n = true) : pl (.list xs) (n + 1) = true := by rw [pl]; exact (plAll_iff n xs).mpr h
theorem pl_int (i : Int) (n : Nat) : pl (.int i) n = true := by cases n <;> rfl
mutual
theorem pl_lay : ∀ (d : D) (n : Nat), pl d n = true → d.canLay0 = true ∧ d.depth ≤ n
  | .none, _, _ => by simp [PyData.canLay0, PyData.depth]
  | .int i, _, _ => by simp [PyData.canLay0, PyData.depth]
  | .list xs, n + 1, q => by
    rw [pl] at q
    obtain ⟨h1, h2⟩ := plAll_lay xs n q
    rw [PyData.canLay0, PyData.depth]
    exact ⟨h1, by omega⟩
  | .tuple xs, n + 1, q => by
    rw [pl] at q
    obtain ⟨h1, h2⟩ := plAll_lay xs n q
    rw [PyData.canLay0, PyData.depth]
    exact ⟨h1, by omega⟩
  | .list xs, 0, q => by simp [pl] at q
  | .tuple xs, 0, q => by simp [pl] at q
  | .bool _, n, q => by cases n <;> simp [pl] at q
  | .str _, n, q => by cases n <;> simp [pl] at q
  | .dict _, n, q => by cases n <;> simp [pl] at q
theorem plAll_lay : ∀ (xs : List D) (n : Nat), plAll xs n = true → PyData.canLayAll0 xs = true ∧ PyData.depthAll xs ≤ n
  | [], _, _ => by simp [PyData.canLayAll0, PyData.depthAll]
  | x :: xs, n, q => by
    rw [plAll, Bool.and_eq_true] at q
    obtain ⟨h1, h2⟩ := pl_lay x n q.1
    obtain ⟨h3, h4⟩ := plAll_lay xs n q.2
    rw [PyData.canLayAll0, PyData.depthAll, h1, h3]
    exact ⟨rfl, by omega⟩
end
theorem pl_shaped {d : D} {n : Nat} (h : pl d n = true) (hn : n ≤ 64) : SeqAt.shaped d = true := by
  obtain ⟨h1, h2⟩ := pl_lay d n h
  unfold SeqAt.shaped
  rw [h1, decide_eq_true (by omega)]
  rfl
mutual
theorem pl_eqv : ∀ (d e : D) (n m : Nat), pl d n = true → pl e m = true → (PyData.eqv d e = true ↔ d = e)
  | .none, e, _, m, _, q => by cases e <;> (try simp [PyData.eqv]) <;> (cases m <;> simp [pl] at q)
  | .int i, e, _, m, _, q => by cases e <;> (try simp [PyData.eqv]) <;> (cases m <;> simp [pl] at q)
  | .list xs, e, n + 1, m, p, q => by
    rw [pl] at p
    cases e with
    | list ys =>
      cases m with
      | zero => simp [pl] at q
      | succ m => rw [pl] at q; rw [PyData.eqv, plAll_eqv xs ys n m p q]; simp
    | _ => simp [PyData.eqv]
  | .tuple xs, e, n + 1, m, p, q => by
    rw [pl] at p
    cases e with
    | tuple ys =>
      cases m with
      | zero => simp [pl] at q
      | succ m => rw [pl] at q; rw [PyData.eqv, plAll_eqv xs ys n m p q]; simp
    | _ => simp [PyData.eqv]
  | .list xs, _, 0, _, q, _ => by simp [pl] at q
  | .tuple xs, _, 0, _, q, _ => by simp [pl] at q
  | .bool _, _, n, _, q, _ => by cases n <;> simp [pl] at q
  | .str _, _, n, _, q, _ => by cases n <;> simp [pl] at q
  | .dict _, _, n, _, q, _ => by cases n <;> simp [pl] at q
theorem plAll_eqv : ∀ (xs ys : List D) (n m : Nat), plAll xs n = true → plAll ys m = true → (PyData.eqvAll xs ys = true ↔ xs = ys)
  | [], [], _, _, _, _ => by simp [PyData.eqvAll]
  | [], _ :: _, _, _, _, _ => by simp [PyData.eqvAll]
  | _ :: _, [], _, _, _, _ => by simp [PyData.eqvAll]
  | x :: xs, y :: ys, n, m, p, q => by
    rw [plAll, Bool.and_eq_true] at p q
    rw [PyData.eqvAll, Bool.and_eq_true, pl_eqv x y n m p.1 q.1, plAll_eqv xs ys n m p.2 q.2]
    simp
end
open Classical in
theorem pl_eq {d e : D} {n m : Nat} (p : pl d n = true) (q : pl e m = true) : PyData.eqv d e = decide (d = e) := by
  rw [Bool.eq_iff_iff, pl_eqv d e n m p q, decide_eq_true_eq]
open Classical in
theorem W_eqP {d e : D} {Q : D → Prop} (n m : Nat) (hn : n ≤ 64) (hm : m ≤ 64) (p : pl d n = true) (q : pl e m = true) : W (aCmp .Eq d e) Q = Q (.bool (decide (d = e))) := by
  show W (aEq _ _) Q = _
  unfold aEq
  rw [if_pos ⟨pl_shaped p hn, pl_shaped q hm⟩, W_some, pl_eq p q]
open Classical in
theorem W_neP {d e : D} {Q : D → Prop} (n m : Nat) (hn : n ≤ 64) (hm : m ≤ 64) (p : pl d n = true) (q : pl e m = true) : W (aCmp .NotEq d e) Q = Q (.bool (decide (¬d = e))) := by
  show W (aNe _ _) Q = _
  unfold aNe
  rw [if_pos ⟨pl_shaped p hn, pl_shaped q hm⟩, W_some, pl_eq p q, ← decide_not]
open Classical in
theorem any_pl {d : D} {xs : List D} {n m : Nat} (p : pl d n = true) (q : ∀ x ∈ xs, pl x m = true) : (xs.any fun z => PyData.eqv z d) = decide (d ∈ xs) := by
  rw [Bool.eq_iff_iff, List.any_eq_true, decide_eq_true_eq]
  constructor
  · rintro ⟨x, hx, e⟩
    rw [pl_eqv x d m n (q x hx) p] at e
    exact e ▸ hx
  · exact fun h => ⟨d, h, by rw [pl_eqv d d n n p p]⟩
open Classical in
theorem W_inLP {d : D} {xs : List D} {Q : D → Prop} (n m : Nat) (hn : n ≤ 64) (hm : m < 64) (p : pl d n = true) (q : ∀ x ∈ xs, pl x m = true) : W (aCmp .In d (.list xs)) Q = Q (.bool (decide (d ∈ xs))) := by
  show W (aIn false d (.list xs)) Q = _
  unfold aIn
  rw [W_if, any_pl p q]
  simp [pl_shaped p hn, pl_shaped (pl_lst q) (by omega)]
open Classical in
theorem W_inTP {d : D} {xs : List D} {Q : D → Prop} (n m : Nat) (hn : n ≤ 64) (hm : m < 64) (p : pl d n = true) (q : ∀ x ∈ xs, pl x m = true) : W (aCmp .In d (.tuple xs)) Q = Q (.bool (decide (d ∈ xs))) := by
  show W (aIn false d (.tuple xs)) Q = _
  unfold aIn
  rw [W_if, any_pl p q]
  simp [pl_shaped p hn, pl_shaped (pl_tup q) (by omega)]
open Classical in
theorem W_niTP {d : D} {xs : List D} {Q : D → Prop} (n m : Nat) (hn : n ≤ 64) (hm : m < 64) (p : pl d n = true) (q : ∀ x ∈ xs, pl x m = true) : W (aCmp .NotIn d (.tuple xs)) Q = Q (.bool (decide (¬d ∈ xs))) := by
  show W (aIn true d (.tuple xs)) Q = _
  unfold aIn
  rw [W_if, any_pl p q]
  simp [pl_shaped p hn, pl_shaped (pl_tup q) (by omega)]
theorem at_nat {xs : List D} {i : Int} {j : Nat} {v : D} (hi : i = j) (h : xs[j]? = some v) : atI xs i = some v := by subst hi; exact atI_nat h
theorem W_at {xs : List D} {i : Int} {Q : D → Prop} (h0 : 0 ≤ i) (h1 : i < xs.length) (h : ∀ v, xs[i.toNat]? = some v → Q v) : W (atI xs i) Q := by
  have hl : i.toNat < xs.length := by omega
  exact ⟨xs[i.toNat], at_nat (by omega) (List.getElem?_eq_getElem hl), h _ (List.getElem?_eq_getElem hl)⟩
theorem ixN_nat {n : Nat} {i : Int} (h0 : 0 ≤ i) (h1 : i < n) : ixN n i = some i.toNat := by unfold ixN; rw [if_pos h0, if_pos h1]
theorem cut_all (xs : List D) (k : Nat) : cutD xs (some (k : Int)) none = xs.drop k := by
  unfold cutD
  rw [HT.sIx_nat, HT.sIx_none]
  by_cases h : k ≤ xs.length
  · rw [Nat.min_eq_left h, List.take_of_length_le (by simp)]
  · rw [Nat.min_eq_right (by omega), List.drop_eq_nil_of_le (by omega), List.drop_eq_nil_of_le (by omega)]; simp
theorem cut_to (xs : List D) (k : Nat) : cutD xs none (some (k : Int)) = xs.take k := by
  unfold cutD
  rw [HT.sIx_nat, HT.sIx_none]
  by_cases h : k ≤ xs.length
  · rw [Nat.min_eq_left h, List.drop_zero]; rfl
  · rw [Nat.min_eq_right (by omega), List.drop_zero, List.take_of_length_le (by omega), List.take_of_length_le (by omega)]
theorem W_ints {xs : List Int} {i : Int} {Q : D → Prop} (h0 : 0 ≤ i) (h1 : i < xs.length) (h : ∀ v, xs[i.toNat]? = some v → Q (.int v)) : W (atI (xs.map PyData.int) i) Q := by
  refine W_at h0 (by rw [List.length_map]; exact h1) fun v hv => ?_
  rw [List.getElem?_map] at hv
  cases e : xs[i.toNat]? with
  | none => rw [e] at hv; cases hv
  | some n => rw [e] at hv; cases hv; exact h n e
theorem rg_ok {a b : Int} (h1 : -1000000 ≤ a) (h2 : a ≤ 1000000) (h3 : -1000000 ≤ b) (h4 : b ≤ 1000000) : rgOk a b = true := by
  unfold rgOk
  simp only [Bool.and_eq_true, decide_eq_true_eq]
  omega
end PF
namespace PF
open PySem PySem.Spec PyProof.Rows L2
structure Ordr {α : Type} (lt : α → α → Bool) : Prop where
  irr : ∀ a, lt a a = false
  tr : ∀ a b c, lt a b = true → lt b c = true → lt a c = true
  tot : ∀ a b, lt a b = false → lt b a = false → a = b
def lxLt {α : Type} [DecidableEq α] (lt : α → α → Bool) : List α → List α → Bool
  | [], [] => false
  | [], _ :: _ => true
  | _ :: _, [] => false
  | x :: xs, y :: ys => if x = y then lxLt lt xs ys else lt x y
section
variable {α : Type} [DecidableEq α] {lt : α → α → Bool}
theorem Ordr.asym (o : Ordr lt) {a b : α} (h : lt a b = true) : lt b a = false := by
  cases e : lt b a with
  | false => rfl
  | true => have := o.tr _ _ _ h e; rw [o.irr] at this; cases this
theorem lx_self : ∀ xs : List α, lxLt lt xs xs = false
  | [] => rfl
  | x :: xs => by rw [lxLt, if_pos rfl]; exact lx_self xs
theorem lx_tr (o : Ordr lt) : ∀ xs ys zs : List α, lxLt lt xs ys = true → lxLt lt ys zs = true → lxLt lt xs zs = true
  | [], [], _, h, _ => by cases h
  | [], _ :: _, [], _, h => by cases h
  | [], _ :: _, _ :: _, _, _ => rfl
  | _ :: _, [], _, h, _ => by cases h
  | _ :: _, _ :: _, [], _, h => by cases h
  | x :: xs, y :: ys, z :: zs, h1, h2 => by
    rw [lxLt] at h1 h2 ⊢
    by_cases e1 : x = y
    · subst e1
      rw [if_pos rfl] at h1
      by_cases e2 : x = z
      · subst e2
        rw [if_pos rfl] at h2 ⊢
        exact lx_tr o xs ys zs h1 h2
      · rw [if_neg e2] at h2 ⊢
        exact h2
    · rw [if_neg e1] at h1
      by_cases e2 : y = z
      · subst e2
        rw [if_neg e1]
        exact h1
      · rw [if_neg e2] at h2
        have h3 := o.tr _ _ _ h1 h2
        by_cases e3 : x = z
        · subst e3
          rw [o.irr] at h3
          cases h3
        · rw [if_neg e3]; exact h3
theorem lx_tot (o : Ordr lt) : ∀ xs ys : List α, lxLt lt xs ys = false → lxLt lt ys xs = false → xs = ys
  | [], [], _, _ => rfl
  | [], _ :: _, h, _ => by cases h
  | _ :: _, [], _, h => by cases h
  | x :: xs, y :: ys, h1, h2 => by
    rw [lxLt] at h1 h2
    by_cases e : x = y
    · subst e
      rw [if_pos rfl] at h1 h2
      rw [lx_tot o xs ys h1 h2]
    · rw [if_neg e] at h1
      rw [if_neg fun z => e z.symm] at h2
      exact absurd (o.tot _ _ h1 h2) e
theorem Ordr.lx (o : Ordr lt) : Ordr (lxLt lt) := ⟨lx_self, lx_tr o, lx_tot o⟩
def srt (lt : α → α → Bool) (xs : List α) : List α := xs.mergeSort fun a b => !lt b a
theorem Ordr.le_tr (o : Ordr lt) (a b c : α) (h1 : (!lt b a) = true) (h2 : (!lt c b) = true) : (!lt c a) = true := by
  rw [Bool.not_eq_true'] at h1 h2 ⊢
  cases e : lt c a with
  | false => rfl
  | true =>
    cases e2 : lt a b with
    | true => have := o.tr _ _ _ e e2; rw [h2] at this; cases this
    | false => have := o.tot _ _ e2 h1; subst this; rw [h2] at e; cases e
theorem Ordr.le_tot (o : Ordr lt) (a b : α) : (!lt b a || !lt a b) = true := by
  cases e : lt b a with
  | false => rfl
  | true => rw [o.asym e]; rfl
theorem srt_sorted (o : Ordr lt) (xs : List α) : (srt lt xs).Pairwise fun a b => (!lt b a) = true := List.pairwise_mergeSort (fun a b c => o.le_tr a b c) (fun a b => o.le_tot a b) xs
theorem srt_perm (xs : List α) : (srt lt xs).Perm xs := List.mergeSort_perm _ _
theorem srt_eq (o : Ordr lt) {xs ys : List α} (hp : xs.Perm ys) (hs : ys.Pairwise fun a b => lt a b = true) : srt lt xs = ys := by
  refine List.Perm.eq_of_pairwise (le := fun a b => (!lt b a) = true) (fun a b _ _ h1 h2 => ?_) (srt_sorted o xs) (hs.imp fun h => ?_) ((srt_perm xs).trans hp)
  · rw [Bool.not_eq_true'] at h1 h2
    exact o.tot _ _ h2 h1
  · rw [o.asym h]; rfl
theorem srt_strict (o : Ordr lt) {xs : List α} (nd : xs.Nodup) : (srt lt xs).Pairwise fun a b => lt a b = true := by
  have h1 := srt_sorted o xs
  have h2 : (srt lt xs).Nodup := (srt_perm xs).nodup_iff.mpr nd
  have := h1.and h2
  refine this.imp fun {a b} h => ?_
  cases e : lt a b with
  | true => rfl
  | false =>
    have h3 := h.1
    rw [Bool.not_eq_true'] at h3
    exact absurd (o.tot _ _ e h3) h.2
end
structure Enc {α : Type} [DecidableEq α] (to : α → D) (lt : α → α → Bool) : Prop where
  alike : ∀ a b, PySem.W.alike (to a) (to b) = true
  eqv : ∀ a b, PyData.eqv (to a) (to b) = decide (a = b)
  lt_eq : ∀ a b, PySem.W.dataLt (to a) (to b) = lt a b
section
variable {α : Type} [DecidableEq α] {lt : α → α → Bool} {to : α → D}
theorem enc_alike (h : Enc to lt) : ∀ xs ys : List α, PySem.W.alikeAll (xs.map to) (ys.map to) = true
  | [], _ => by rw [List.map_nil, PySem.W.alikeAll]
  | _ :: _, [] => by rw [List.map_nil, List.map_cons, PySem.W.alikeAll]
  | x :: xs, y :: ys => by rw [List.map_cons, List.map_cons, PySem.W.alikeAll, h.alike, enc_alike h xs ys]; rfl
theorem enc_eqv (h : Enc to lt) : ∀ xs ys : List α, PyData.eqvAll (xs.map to) (ys.map to) = decide (xs = ys)
  | [], [] => by simp [PyData.eqvAll]
  | [], _ :: _ => by simp [PyData.eqvAll]
  | _ :: _, [] => by simp [PyData.eqvAll]
  | x :: xs, y :: ys => by
    rw [List.map_cons, List.map_cons, PyData.eqvAll, h.eqv, enc_eqv h xs ys, ← Bool.decide_and]
    exact decide_eq_decide.mpr (by rw [List.cons.injEq])
theorem enc_lex (h : Enc to lt) : ∀ xs ys : List α, PyProof.Rows.lexLt PyProof.Rows.itemOrd (PySem.W.keyToksAll (xs.map to)) (PySem.W.keyToksAll (ys.map to)) = lxLt lt xs ys
  | [], [] => rfl
  | [], _ :: _ => by
    rw [List.map_nil, List.map_cons]
    simp only [PySem.W.keyToksAll, lxLt]
    rfl
  | _ :: _, [] => by
    rw [List.map_nil, List.map_cons]
    simp only [PySem.W.keyToksAll, lxLt]
    rfl
  | x :: xs, y :: ys => by
    rw [List.map_cons, List.map_cons, lxLt]
    by_cases e : x = y
    · rw [if_pos e, PySem.W.dataLt_all_yes (h.alike x y) (by rw [h.eqv]; exact decide_eq_true e)]
      exact enc_lex h xs ys
    · rw [if_neg e, PySem.W.dataLt_all_no (h.alike x y) (by rw [h.eqv]; exact decide_eq_false e)]
      exact h.lt_eq x y
theorem Enc.tup (h : Enc to lt) : Enc (fun xs : List α => .tuple (xs.map to)) (lxLt lt) := ⟨fun a b => by simp only [PySem.W.alike]; exact enc_alike h a b, fun a b => by simp only [PyData.eqv]; exact enc_eqv h a b, fun a b => enc_lex h a b⟩
theorem Enc.lst (h : Enc to lt) : Enc (fun xs : List α => .list (xs.map to)) (lxLt lt) := ⟨fun a b => by simp only [PySem.W.alike]; exact enc_alike h a b, fun a b => by simp only [PyData.eqv]; exact enc_eqv h a b, fun a b => enc_lex h a b⟩
theorem Enc.srt (h : Enc to lt) (xs : List α) : sortD (xs.map to) = (PF.srt lt xs).map to := by
  unfold sortD PF.srt
  refine (List.map_mergeSort fun a _ b _ => ?_).symm
  show (!lt b a) = PySem.W.dataLe false id (to a) (to b)
  rw [← h.lt_eq]
  rfl
theorem Enc.sortOk (h : Enc to lt) {n : Nat} (hp : ∀ a, pl (to a) n = true) (hn : n < 64) (xs : List α) (hf : (∀ a ∈ xs, firstT (to a) = true) ∨ ∀ a ∈ xs, flatK (to a) = true) (hl : xs.length ≤ sizeLine) : PF.sortOk (xs.map to) = true := by
  unfold PF.sortOk
  have h1 : SeqAt.shaped (.list (xs.map to)) = true := pl_shaped (pl_lst fun d hd => by obtain ⟨a, _, rfl⟩ := List.mem_map.mp hd; exact hp a) (by omega)
  have h2 : alikeB (xs.map to) = true := by
    unfold alikeB
    rw [List.all_eq_true]
    intro x hx
    rw [List.all_eq_true]
    intro y hy
    obtain ⟨a, _, rfl⟩ := List.mem_map.mp hx
    obtain ⟨b, _, rfl⟩ := List.mem_map.mp hy
    exact h.alike a b
  have h3 : ((xs.map to).all firstT || (xs.map to).all flatK) = true := by
    rw [Bool.or_eq_true, List.all_eq_true, List.all_eq_true]
    rcases hf with hf | hf
    · exact .inl fun d hd => by obtain ⟨a, ha, rfl⟩ := List.mem_map.mp hd; exact hf a ha
    · exact .inr fun d hd => by obtain ⟨a, ha, rfl⟩ := List.mem_map.mp hd; exact hf a ha
  rw [h1, h2, h3, List.length_map, decide_eq_true hl]
  rfl
end
def natLt (a b : Nat) : Bool := decide (a < b)
theorem ordNat : Ordr natLt := ⟨fun a => by simp [natLt], fun a b c h1 h2 => by simp [natLt] at *; omega, fun a b h1 h2 => by simp [natLt] at *; omega⟩
theorem encNat : Enc (fun n : Nat => PyData.int (n : Int)) natLt := ⟨fun a b => by simp only [PySem.W.alike], fun a b => by
    rw [eqv_int]
    exact decide_eq_decide.mpr ⟨fun e => by omega, fun e => by omega⟩, fun a b => by
    rw [PySem.W.dataLt_int]
    exact decide_eq_decide.mpr ⟨fun e => by omega, fun e => by omega⟩⟩
theorem W_srtL (ds : List D) (Q : D → Prop) : W (bSorted [.list ds]) Q = (sortOk ds = true ∧ Q (.list (sortD ds))) := W_if _ _ _
theorem W_comp2 (it it1 : Env → Option (List D)) (vs vs1 : List Nat) (b b1 : D → Env → Option Env) (c c1 : Env → Option Bool) (e : Den) (ρ : Env) (Q : D → Prop) : W (dComp2 it vs b c it1 vs1 b1 c1 e ρ) Q = W (it ρ) fun items => W (comp2L b c it1 vs1 b1 c1 e (wipeE ρ vs) items) fun ys => ys.length ≤ sizeLine ∧ Q (.list ys) := by
  unfold dComp2
  simp only [W_bind, W_if]
theorem comp2_typed {α : Type} {b b1 : D → Env → Option Env} {c c1 : Env → Option Bool} {it1 : Env → Option (List D)} {vs1 : List Nat} {e : Den} {ρ0 : Env} (as : List α) (to : α → D) (g : α → List D) (h : ∀ a ∈ as, W (b (to a) ρ0) fun ρ1 => W (c ρ1) fun k => if k = true then W (it1 (noOwn ρ1)) fun items => compL b1 c1 e (wipeE (noOwn ρ1) vs1) items = some (g a) else g a = []) : comp2L b c it1 vs1 b1 c1 e ρ0 (as.map to) = some (as.flatMap g) := by
  induction as with
  | nil => rfl
  | cons a as ih =>
    obtain ⟨ρ1, e1, k, e2, hk⟩ := h a (List.mem_cons_self ..)
    have ih' := ih fun a ha => h a (List.mem_cons_of_mem _ ha)
    rw [List.map_cons]
    unfold comp2L
    rw [e1, Option.bind_some, e2, Option.bind_some, List.flatMap_cons]
    cases k with
    | true =>
      rw [if_pos rfl] at hk
      obtain ⟨items, e3, e4⟩ := hk
      rw [if_pos rfl, e3, Option.bind_some, e4, Option.bind_some, ih']
      rfl
    | false =>
      rw [if_neg (by decide)] at hk
      rw [if_neg (by decide), ih', hk]
      rfl
end PF
namespace PF
open PySem PySem.Spec PyProof.Rows L2
theorem W_par (i j : Nat) (oi oj : Bool) (f g : Den) (ρ : Env) (R : Out → Prop) : W (dPar i j oi oj f g ρ) R = W (f ρ) fun d => W (g ρ) fun e => W (dPut oi i d ρ) fun ρ1 => W (dPut oj j e ρ1) fun ρ2 => R (.next ρ2) := by
  unfold dPar
  simp only [W_bind, W_map]
theorem W_putT (i : Nat) (xs : List D) (ρ : Env) (K : Env → Prop) : W (dPut true i (.list xs) ρ) K = Pt ρ i (.own xs) K := W_some _ _
theorem W_putF (i : Nat) (d : D) (ρ : Env) (K : Env → Prop) : W (dPut false i d ρ) K = Pt ρ i (.val d) K := W_some _ _
theorem W_revL (xs : List D) (Q : D → Prop) : W (aRev (.list xs)) Q = Q (.list xs.reverse) := W_some _ _
theorem W_revT (xs : List D) (Q : D → Prop) : W (aRev (.tuple xs)) Q = Q (.tuple xs.reverse) := W_some _ _
def ev4 := And.intro @W_revL <| And.intro @W_revT <| And.intro @W_par <| And.intro @W_putT <| @W_putF
theorem W_while {c : Den} {F : DenS} {P : Out → Prop} (I : Nat → Env → Prop) (hs : ∀ m ρ, I m ρ → W (c ρ) fun d => Bz d (W (F ρ) (Lp (fun ρ' => ∃ m', m' < m ∧ I m' ρ') P)) (P (.next ρ))) : ∀ n m ρ, m < n → I m ρ → W (whileL c F n ρ) P
  | 0, m, ρ, h, _ => by omega
  | n + 1, m, ρ, h, hI => by
    obtain ⟨d, e1, b, rfl, ht, hf⟩ := hs m ρ hI
    unfold whileL
    rw [e1]
    cases b with
    | false => exact ⟨_, rfl, hf rfl⟩
    | true =>
      obtain ⟨o, e2, h2⟩ := ht rfl
      simp only [e2]
      cases o with
      | next ρ2 => obtain ⟨m', h3, h4⟩ := h2; exact W_while I hs n m' ρ2 (by omega) h4
      | cont ρ2 => obtain ⟨m', h3, h4⟩ := h2; exact W_while I hs n m' ρ2 (by omega) h4
      | brk ρ2 => exact ⟨_, rfl, h2⟩
      | ret d => exact ⟨_, rfl, h2⟩
      | reto d => exact ⟨_, rfl, h2⟩
theorem W_ext (i : Nat) (f : Den) (ρ : Env) (R : Out → Prop) : W (dExtend i f ρ) R = Lo ρ i fun xs => W (f ρ) fun d => Lv d fun ys => xs.length + ys.length ≤ sizeLine ∧ Pt ρ i (.own (xs ++ ys)) fun ρ' => R (.next ρ') := by
  unfold dExtend
  split
  · rename_i xs e
    rw [Lo_of e]
    cases e2 : f ρ with
    | none => simp only [W_none]
    | some d =>
      cases d with
      | list ys => simp only [W_some, Lv_l, W_if]; rfl
      | _ => simp only [W_none, W_some]; exact propext ⟨fun z => False.elim z, fun ⟨_, e, _⟩ => by cases e⟩
  · rename_i hn
    rw [W_none]
    exact propext ⟨fun z => False.elim z, fun ⟨xs, e, _⟩ => hn xs e⟩
theorem W_pop (i : Nat) (b : D → Env → Option Env) (ρ : Env) (R : Out → Prop) (xs : List D) (x : D) (e : ρ[i]? = some (some (.own (xs ++ [x])))) : W (dPop i b ρ) R = Pt ρ i (.own xs) fun ρ' => W (b x ρ') fun ρ'' => R (.next ρ'') := by
  unfold dPop
  rw [e]
  simp only [List.length_append, List.length_cons, List.length_nil, Nat.zero_add, Nat.add_sub_cancel]
  rw [List.getElem?_append_right (Nat.le_refl _), Nat.sub_self, List.getElem?_cons_zero]
  simp only [W_map, List.dropLast_concat]
  rfl
end PF
namespace PF
open PySem PySem.Spec PyProof.Rows L2
structure Ky {α : Type} (to : α → D) (ky : α → NestedKey) : Prop where
  key : ∀ a, keyT (to a) = some (ky a)
  inj : ∀ a b, ky a = ky b → a = b
section
variable {α β : Type} [DecidableEq α]
def aget (m : List (α × β)) (a : α) : Option β := (m.find? fun p => decide (p.1 = a)).map (·.2)
theorem aget_cons (p : α × β) (m : List (α × β)) (a : α) : aget (p :: m) a = if p.1 = a then some p.2 else aget m a := by
  unfold aget
  by_cases h : p.1 = a
  · rw [List.find?_cons_of_pos (by simpa using h), if_pos h]; rfl
  · rw [List.find?_cons_of_neg (by simpa using h), if_neg h]
end
def encM {α β : Type} (to : α → D) (tv : β → D) (m : List (α × β)) : List (D × D) := m.map fun p => (to p.1, tv p.2)
section
variable {α β : Type} [DecidableEq α] {to : α → D} {ky : α → NestedKey} {tv : β → D}
theorem Ky.is (h : Ky to ky) (a : α) (p : α × β) : isKy (ky a) (to p.1, tv p.2) = decide (p.1 = a) := by
  rw [isKy_iff (h.key p.1)]
  exact decide_eq_decide.mpr ⟨fun e => h.inj _ _ e, fun e => by rw [e]⟩
theorem Ky.get (h : Ky to ky) (m : List (α × β)) (a : α) : getKV (encM to tv m) (ky a) = (aget m a).map tv := by
  induction m with
  | nil => rfl
  | cons p m ih =>
    unfold getKV encM at ih ⊢
    rw [List.map_cons, aget_cons]
    by_cases e : p.1 = a
    · rw [List.find?_cons_of_pos (by rw [h.is]; simpa using e), if_pos e]; rfl
    · rw [List.find?_cons_of_neg (by rw [h.is]; simpa using e), if_neg e]
      exact ih
theorem Ky.some (h : Ky to ky) (m : List (α × β)) (a : α) : (getKV (encM to tv m) (ky a)).isSome = (aget m a).isSome := by rw [h.get, Option.isSome_map]
end
end PF
namespace LW
open PySem PySem.Spec PyProof.Rows L2 PF
def wFuel : Nat := 1099511627776
def den_l_cell : DenS :=
  (dSeq (dIfS (d2 (aCmp .Lt) (dVarB 1) (dCall bLen [(dVarB 0)])) (dRet (d2 aIx (dVarB 0) (dVarB 1))) (fun ρ => some (.next ρ)))
    (dSeq (dIfS (d2 (aCmp .Eq) (dCall bLen [(dVarB 0)]) (dC (.int 0))) (dRet (d2 aAdd (d2 aMul (dC (.int 7919)) (dVarB 1)) (dC (.int 101)))) (fun ρ => some (.next ρ)))
    (dRet (d2 aAdd (d2 aMod (d2 aIx (dVarB 0) (d2 aMod (dVarB 1) (dCall bLen [(dVarB 0)]))) (dC (.int 1000003))) (d2 aMul (dC (.int 7919)) (dVarB 1))))))
def f_l_cell : List D → Option D := runF 2 den_l_cell
def den_l_draws : DenS :=
  (dSeq (dSet 4 (dTup [(dC (.int 2147483647)), (dC (.int 2147483629)), (dC (.int 2147483587)), (dC (.int 2147483579)), (dC (.int 2147483563)), (dC (.int 2147483549)), (dC (.int 2147483543)), (dC (.int 2147483497))]))
    (dSeq (dSet 5 (dCall f_l_cell [(dVar 0), (dVar 1)]))
    (dSeq (dSet 6 (dC (.int 0)))
    (dSeq (dIfS (d2 (aCmp .GtE) (dVarB 5) (d2 aPow (dC (.int 10)) (dC (.int 18)))) (dSet 6 (dVar 5)) (fun ρ => some (.next ρ)))
    (dSeq (dOwn 7 (dLst []))
    (dSeq (dFor (dRg (dC (.int 0)) (dVarB 2)) (bName 8) (dSeq (dSet 9 (d2 aMul (d2 aMod (dVarB 5) (d2 aIx (dVarB 4) (d2 aMod (dVarB 8) (dC (.int 8))))) (d2 aAdd (dC (.int 48271)) (d2 aMul (d2 aMul (dC (.int 2)) (dVarB 8)) (dVarB 8)))))
    (dSeq (dSet 9 (d2 aAdd (d2 aAdd (dVarB 9) (d2 aMul (d2 aMul (dC (.int 7919)) (d2 aAdd (dVarB 8) (dC (.int 1)))) (d2 aAdd (dVarB 8) (dC (.int 1))))) (d2 aMul (dC (.int 104729)) (dVarB 1))))
    (dSeq (dSet 9 (d2 aMod (dVarB 9) (d2 aIx (dVarB 4) (d2 aMod (d2 aAdd (d2 aMul (dC (.int 3)) (dVarB 8)) (dVarB 1)) (dC (.int 8))))))
    (dSeq (dSet 9 (d2 aMod (d2 aMul (d2 aMul (dVarB 9) (dVarB 9)) (dVarB 9)) (d2 aIx (dVarB 4) (d2 aMod (d2 aAdd (dVarB 8) (dC (.int 5))) (dC (.int 8))))))
    (dSeq (dIfS (d2 (aCmp .Gt) (dVarB 6) (dC (.int 0))) (dSet 9 (dVar 6)) (fun ρ => some (.next ρ)))
    (dSeq (dAppend 7 (d2 aMod (dVarB 9) (dVarB 3)))
    (dSet 6 (d2 aDiv (dVarB 6) (dVarB 3))))))))))
    (fun ρ => (dRet (dVar 7)) (fzE ρ [7]))))))))
def f_l_draws : List D → Option D := runF 10 den_l_draws
def den_rank_of : DenS :=
  (dSeq (dIfS (d2 (aCmp .In) (dTup [(dVar 1), (dVar 2)]) (d2 aIx (dVarB 0) (dC (.int 1)))) (dRet (dC (.int 0))) (fun ρ => some (.next ρ)))
    (dRet (dIf (d2 (aCmp .In) (dTup [(dVar 2), (dVar 1)]) (d2 aIx (dVarB 0) (dC (.int 1)))) (dC (.int 2)) (dC (.int 1)))))
def f_rank_of : List D → Option D := runF 3 den_rank_of
def den_is_fit : DenS :=
  (dSeq (dSet 2 (dComp (dZip (dVarB 1) (dCut (dVarB 1) (some (dC (.int 1))) none)) [3, 4] (bTup (bCons (bName 3) (bCons (bName 4) bNil))) (fun _ => some true) (dCall f_rank_of [(dVar 0), (dVar 3), (dVar 4)])))
    (dRet (dCall bAll [(dComp (dZip (dVarB 2) (dCut (dVarB 2) (some (dC (.int 1))) none)) [3, 4] (bTup (bCons (bName 3) (bCons (bName 4) bNil))) (fun _ => some true) (dOr (d2 (aCmp .Eq) (dVarB 3) (dC (.int 2))) (d2 (aCmp .Eq) (dVarB 4) (dC (.int 0)))))])))
def f_is_fit : List D → Option D := runF 5 den_is_fit
def den_l_trade : DenS :=
  (dSeq (dSet 3 (dCall f_l_draws [(dVar 0), (dVar 1), (dC (.int 60)), (dC (.int 27720))]))
    (dSeq (dSet 4 (d2 aIx (dLst [(d2 aAdd (dC (.int 2)) (d2 aMod (d2 aIx (dVarB 3) (dC (.int 0))) (d2 aSub (dVarB 2) (dC (.int 1))))), (dVar 2), (dCall bMin [(dC (.int 4)), (dVarB 2)])]) (d2 aMod (d2 aIx (dVarB 3) (dC (.int 1))) (dC (.int 3)))))
    (dSeq (dOwn 5 (dLstOf (dRg (dC (.int 0)) (dVarB 4))))
    (dSeq (dPopC 6 5 [11] (dRg (dC (.int 0)) (dVarB 4)) (bName 11) (d2 aMod (d2 aIx (dVarB 3) (d2 aAdd (dC (.int 50)) (dVarB 11))) (dCall bLen [(dVarB 5)])))
    (dSeq (dPar 8 9 true true (dLst []) (dLst []))
    (dSeq (dFor (dRg (dC (.int 0)) (dVarB 4)) (bName 7) (dFor (dRg (d2 aAdd (dVarB 7) (dC (.int 1))) (dVarB 4)) (bName 10) (dSeq (dSet 12 (d2 aIx (dVarB 3) (d2 aAdd (d2 aAdd (dC (.int 2)) (d2 aMul (dC (.int 6)) (dVarB 7))) (dVarB 10))))
    (dSeq (dSet 13 (dTup [(dVar 7), (dVar 10)]))
    (dIfS (d2 (aCmp .Lt) (d2 aMod (dVarB 12) (dC (.int 5))) (dC (.int 3))) (dSeq (dSet 14 (dIf (d2 (aCmp .Eq) (d2 aMod (d2 aIx (dVarB 3) (dC (.int 49))) (dC (.int 2))) (dC (.int 0))) (d2 (aCmp .Lt) (d2 aIx (dVarB 6) (dVarB 7)) (d2 aIx (dVarB 6) (dVarB 10))) (d2 (aCmp .Eq) (d2 aMod (d2 aDiv (dVarB 12) (dC (.int 5))) (dC (.int 2))) (dC (.int 0)))))
    (dAppend 8 (dIf (dVar 14) (dVar 13) (d1 aRev (dVarB 13))))) (dIfS (d2 (aCmp .Eq) (d2 aMod (dVarB 12) (dC (.int 5))) (dC (.int 3))) (dAppend 9 (dVar 13)) (fun ρ => some (.next ρ))))))))
    (dRet (dTup [(dVar 4), (dCall bTuple [(dCall bSorted [(dVarB 8)])]), (dCall bTuple [(dVarB 9)])]))))))))
def f_l_trade : List D → Option D := runF 15 den_l_trade
def den_l_all_2 : DenS :=
  (dSeq (dSet 3 (dLst []))
    (dSeq (dOwn 4 (dLst [(dTup [(dVar 2)])]))
    (dSeq (whileL (d2 (aCmp .NotEq) (dVarB 4) (dLst [])) (dSeq (dPop 4 (bName 5))
    (dSeq (dSet 6 (dComp (dRg (dC (.int 0)) (dVarB 0)) [7] (bName 7) (dT (d2 (aCmp .NotIn) (dVarB 7) (dVarB 5))) (dVar 7)))
    (dSeq (dSet 6 (dComp (dItems (dVarB 6)) [7] (bName 7) (dT (d2 (aCmp .In) (dTup [(dCall bMin [(d2 aIx (dVarB 5) (d1 aNeg (dC (.int 1)))), (dVarB 7)]), (dCall bMax [(d2 aIx (dVarB 5) (d1 aNeg (dC (.int 1)))), (dVarB 7)])]) (dVarB 1))) (dVar 7)))
    (dSeq (dSet 3 (d2 aAdd (dVarB 3) (dComp (dItems (dVarB 6)) [7] (bName 7) (dT (d2 (aCmp .Eq) (dVarB 7) (dC (.int 0)))) (d2 aAdd (dVarB 5) (dTup [(dC (.int 0))])))))
    (dExtend 4 (dComp (dItems (dVarB 6)) [7] (bName 7) (dT (d2 (aCmp .NotEq) (dVarB 7) (dC (.int 0)))) (d2 aAdd (dVarB 5) (dTup [(dVar 7)])))))))) wFuel)
    (dRet (dVar 3)))))
def f_l_all_2 : List D → Option D := runF 8 den_l_all_2
def den_l_sort : DenS :=
  (dSeq (dIfS (d2 (aCmp .In) (dTup [(dVar 1), (dVar 2)]) (d2 aIx (dVarB 0) (dC (.int 1)))) (dRet (dC (.int 0))) (fun ρ => some (.next ρ)))
    (dRet (dIf (d2 (aCmp .In) (dTup [(dVar 2), (dVar 1)]) (d2 aIx (dVarB 0) (dC (.int 1)))) (dC (.int 2)) (dC (.int 1)))))
def f_l_sort : List D → Option D := runF 3 den_l_sort
def den_l_fit : DenS :=
  (dSeq (dSet 2 (dC (.bool true)))
    (dSeq (dFor (dZip (dVar 1) (dCut (dVarB 1) (some (dC (.int 1))) none)) (bTup (bCons (bName 3) (bCons (bName 4) bNil))) (dSeq (dSet 5 (dCall f_l_sort [(dVar 0), (dVar 3), (dVar 4)]))
    (dSeq (dIfS (dAnd (dNot (dVar 2)) (d2 (aCmp .NotEq) (dVarB 5) (dC (.int 0)))) (dRet (dC (.bool false))) (fun ρ => some (.next ρ)))
    (dSet 2 (dAnd (dVar 2) (d2 (aCmp .Eq) (dVarB 5) (dC (.int 2))))))))
    (dRet (dC (.bool true)))))
def f_l_fit : List D → Option D := runF 6 den_l_fit
def den_joined : DenS :=
  (dRet (d2 (aCmp .In) (dTup [(dCall bMin [(dVarB 1), (dVarB 2)]), (dCall bMax [(dVarB 1), (dVarB 2)])]) (dVarB 0)))
def f_joined : List D → Option D := runF 3 den_joined
def den_ways_to_hall : DenS :=
  (dSeq (dSet 2 (dLst []))
    (dSeq (dSet 3 (dLst [(dTup [(dC (.int 0))])]))
    (dSeq (whileL (d2 (aCmp .NotEq) (dVarB 3) (dLst [])) (dSeq (dSet 3 (dCall bSorted [(dComp2 (dItems (dVarB 3)) [4, 5] (bName 4) (fun _ => some true) (dRg (dC (.int 0)) (dVarB 0)) [5] (bName 5) (dT (dAnd (d2 (aCmp .NotIn) (dVarB 5) (dVarB 4)) (dCall f_joined [(dVar 1), (dVar 5), (d2 aIx (dVarB 4) (dC (.int 0)))]))) (d2 aAdd (dTup [(dVar 5)]) (dVarB 4)))]))
    (dSet 2 (d2 aAdd (dVarB 2) (dVarB 3)))) wFuel)
    (dRet (dVar 2)))))
def f_ways_to_hall : List D → Option D := runF 6 den_ways_to_hall
def den_guild_of_trade : DenS :=
  (dSeq (dUnp (bTup (bCons (bName 4) (bCons (bName 5) (bCons (bName 6) bNil)))) (dVar 0))
    (dSeq (dSet 1 (dCall bTuple [(dCall bSorted [(dComp (dItems (d2 aAdd (dVarB 5) (dVarB 6))) [9] (bName 9) (fun _ => some true) (dTup [(dCall bMin [(dVarB 9)]), (dCall bMax [(dVarB 9)])]))])]))
    (dSeq (dSet 2 (dComp (dItems (dCall f_ways_to_hall [(dVar 4), (dVar 1)])) [7] (bName 7) (dT (dCall f_is_fit [(dVar 0), (dVar 7)])) (dVar 7)))
    (dSeq (dSet 2 (dSortKey 7 (dVarB 2) (dTup [(dCall f_rank_of [(dVar 0), (d2 aIx (dVarB 7) (dC (.int 0))), (d2 aIx (dVarB 7) (dC (.int 1)))]), (dCall bLen [(dVarB 7)]), (dVar 7)])))
    (dSeq (dSet 3 (dComp (dRg (dC (.int 1)) (dVarB 4)) [8] (bName 8) (fun _ => some true) (dCall bTuple [(dCut (dComp (dItems (dVarB 2)) [7] (bName 7) (dT (d2 (aCmp .Eq) (d2 aIx (dVarB 7) (dC (.int 0))) (dVarB 8))) (dVar 7)) none (some (dC (.int 6))))])))
    (dRet (dTup [(dVar 4), (dVar 1), (dCall bTuple [(dVarB 3)])])))))))
def f_guild_of_trade : List D → Option D := runF 10 den_guild_of_trade
end LW
namespace LW
open PySem PySem.Spec PyProof.Rows L2 PF
theorem cell_ok (ns : List Int) (k : Nat) (hk : k < 1000000) : W (f_l_cell [scrD ns, .int k]) fun d => ∃ c : Int, d = .int c := by
  refine W_run ?_
  simp only [den_l_cell, ex_all]
  simp only [↓ev_all]
  refine ⟨fun h => ?_, fun h => ⟨fun h2 => ⟨by omega, _, rfl⟩, fun h2 => ?_⟩⟩
  · refine W_ints (by omega) h fun v _ => ⟨_, rfl⟩
  · refine ⟨by omega, ?_⟩
    have h3 := Int.emod_lt_of_pos (k : Int) (show (0 : Int) < ns.length by omega)
    have h4 := Int.emod_nonneg (k : Int) (show (ns.length : Int) ≠ 0 by omega)
    refine W_ints h4 h3 fun v _ => ?_
    simp only [↓ev_all]
    exact ⟨by omega, by omega, _, rfl⟩
def iD (xs : List Int) : List D := xs.map PyData.int
theorem iD_len (xs : List Int) : (iD xs).length = xs.length := List.length_map ..
theorem iD_app (xs : List Int) (i : Int) : iD xs ++ [.int i] = iD (xs ++ [i]) := by unfold iD; simp
def Drawn (m : Nat) (xs : List Int) : Prop := xs.length = m ∧ ∀ x ∈ xs, 0 ≤ x
def prms : List Int := [2147483647, 2147483629, 2147483587, 2147483579, 2147483563, 2147483549, 2147483543, 2147483497]
theorem prm_at (i : Int) : W (atI (iD prms) (i % 8)) fun d => ∃ p : Int, d = .int p ∧ 0 < p ∧ p < 2147483648 := by
  have h3 := Int.emod_lt_of_pos i (show (0 : Int) < 8 by omega)
  have h4 := Int.emod_nonneg i (show (8 : Int) ≠ 0 by omega)
  refine W_ints h4 h3 fun v hv => ⟨v, rfl, ?_⟩
  have : v ∈ prms := List.mem_of_getElem? hv
  simp only [prms, List.mem_cons, List.not_mem_nil, or_false] at this
  omega
theorem mod_b (a b : Int) (h : 0 < b) : 0 ≤ a % b ∧ a % b < b := ⟨Int.emod_nonneg a (by omega), Int.emod_lt_of_pos a h⟩
theorem draws_ok (ns : List Int) (k many : Nat) (base : Int) (hk : k < 1000) (hm : many ≤ 1000) (hb : 0 < base) (hb2 : base < 1000000) :
    W (f_l_draws [scrD ns, .int k, .int many, .int base]) fun d => ∃ xs, d = .list (iD xs) ∧ Drawn many xs := by
  refine W_run ?_
  simp only [den_l_draws, ex_all]
  simp only [↓ev_all]
  refine (cell_ok ns k (by omega)).mono fun d ⟨c, hc⟩ => ?_
  subst hc
  simp only [↓ev_all]
  have key : ∀ rest : Int, rgOk 0 (many : Int) = true ∧
      W (forL (bName 8) (dSeq (dSet 9 (d2 aMul (d2 aMod (dVarB 5) (d2 aIx (dVarB 4) (d2 aMod (dVarB 8) (dC (.int 8))))) (d2 aAdd (dC (.int 48271)) (d2 aMul (d2 aMul (dC (.int 2)) (dVarB 8)) (dVarB 8)))))
    (dSeq (dSet 9 (d2 aAdd (d2 aAdd (dVarB 9) (d2 aMul (d2 aMul (dC (.int 7919)) (d2 aAdd (dVarB 8) (dC (.int 1)))) (d2 aAdd (dVarB 8) (dC (.int 1))))) (d2 aMul (dC (.int 104729)) (dVarB 1))))
    (dSeq (dSet 9 (d2 aMod (dVarB 9) (d2 aIx (dVarB 4) (d2 aMod (d2 aAdd (d2 aMul (dC (.int 3)) (dVarB 8)) (dVarB 1)) (dC (.int 8))))))
    (dSeq (dSet 9 (d2 aMod (d2 aMul (d2 aMul (dVarB 9) (dVarB 9)) (dVarB 9)) (d2 aIx (dVarB 4) (d2 aMod (d2 aAdd (dVarB 8) (dC (.int 5))) (dC (.int 8))))))
    (dSeq (dIfS (d2 (aCmp .Gt) (dVarB 6) (dC (.int 0))) (dSet 9 (dVar 6)) (fun ρ => some (.next ρ)))
    (dSeq (dAppend 7 (d2 aMod (dVarB 9) (dVarB 3)))
    (dSet 6 (d2 aDiv (dVarB 6) (dVarB 3))))))))) (rgD 0 many) [some (.val (scrD ns)), some (.val (.int k)), some (.val (.int many)), some (.val (.int base)), some (.val (.tuple (iD prms))), some (.val (.int c)), some (.val (.int rest)), some (.own []), none, none])
        (PF.Kn (fun ρ => (dRet (dVar 7)) (fzE ρ [7])) (Rt fun d => ∃ xs, d = .list (iD xs) ∧ Drawn many xs)) := fun rest => by
    refine ⟨rg_ok (by omega) (by omega) (by omega) (by omega), ?_⟩
    refine W_forR (fun i ρ => ∃ (r : Int) (xs : List Int) (u v : Option SV), Drawn i xs ∧ ρ = [some (.val (scrD ns)), some (.val (.int k)), some (.val (.int many)), some (.val (.int base)), some (.val (.tuple (iD prms))), some (.val (.int c)), some (.val (.int r)), some (.own (iD xs)), u, v]) ⟨rest, [], none, none, ⟨rfl, fun x h => by cases h⟩, rfl⟩ (fun ρ ⟨r, xs, u, v, hx, hρ⟩ => ?_) (fun i ρ hi ⟨r, xs, u, v, hx, hρ⟩ => ?_)
    · subst hρ
      simp only [↓Kn_n, ex_all]
      simp only [↓ev_all]
      refine ⟨xs, rfl, ?_⟩
      have : ((many : Int) - 0).toNat = many := by omega
      rw [this] at hx
      exact hx
    · subst hρ
      simp only [↓ev_all]
      refine ⟨by omega, (prm_at _).mono fun d ⟨p, hp, p1, p2⟩ => ?_⟩
      subst hp
      simp only [↓ev_all]
      have b1 := mod_b c p p1
      refine ⟨p1, by omega, by omega, ?_⟩
      refine ⟨by omega, by omega, by omega, by omega, by omega, by omega, (prm_at _).mono fun d ⟨q, hq, q1, q2⟩ => ?_⟩
      subst hq
      simp only [↓ev_all]
      have b2 := mod_b (c % p * (48271 + 2 * (0 + ↑i) * (0 + ↑i)) + 7919 * (0 + ↑i + 1) * (0 + ↑i + 1) + 104729 * ↑k) q q1
      refine ⟨q1, by omega, by omega, by omega, (prm_at _).mono fun d ⟨q', hq', q1', q2'⟩ => ?_⟩
      subst hq'
      simp only [↓ev_all]
      refine ⟨q1', fun h => ?_, fun h => ?_⟩
      · refine ⟨hb, ?_, ⟨hb, by omega⟩, _, _, _, _, ?_, by rw [iD_app]⟩
        · rw [iD_len, hx.1]; show _ < 16777216; omega
        · refine ⟨by simp [hx.1], fun x hx' => ?_⟩
          rw [List.mem_append] at hx'
          rcases hx' with h | h
          · exact hx.2 x h
          · cases h with
            | head => exact (mod_b _ _ hb).1
            | tail _ h => cases h
      · refine ⟨hb, ?_, ⟨hb, by omega⟩, _, _, _, _, ?_, by rw [iD_app]⟩
        · rw [iD_len, hx.1]; show _ < 16777216; omega
        · refine ⟨by simp [hx.1], fun x hx' => ?_⟩
          rw [List.mem_append] at hx'
          rcases hx' with h | h
          · exact hx.2 x h
          · cases h with
            | head => exact (mod_b _ _ hb).1
            | tail _ h => cases h
  exact ⟨by decide, fun _ => key c, fun _ => key 0⟩
end LW
namespace PF
open PySem PySem.Spec PyProof.Rows L2
end PF
namespace LW
open PySem PySem.Spec PyProof.Rows L2 PF
def nD (w : List Nat) : List D := w.map fun n => PyData.int (n : Nat)
def wD (w : List Nat) : D := .tuple (nD w)
def rD (r : Nat × Nat) : D := .tuple [.int (r.1 : Nat), .int (r.2 : Nat)]
def rsD (rs : List (Nat × Nat)) : D := .tuple (rs.map rD)
theorem nD_app (w : List Nat) (n : Nat) : nD w ++ [.int n] = nD (w ++ [n]) := by unfold nD; simp
theorem nD_len (w : List Nat) : (nD w).length = w.length := List.length_map ..
theorem nD_pl {w : List Nat} {d : D} (h : d ∈ nD w) (n : Nat) : pl d n = true := by
  obtain ⟨m, _, rfl⟩ := List.mem_map.mp h
  exact pl_int _ _
theorem nD_mem {w : List Nat} {n : Nat} : PyData.int n ∈ nD w ↔ n ∈ w := by
  unfold nD
  rw [List.mem_map]
  constructor
  · rintro ⟨m, h, e⟩
    injection e with e
    have : m = n := by omega
    exact this ▸ h
  · exact fun h => ⟨n, h, rfl⟩
theorem nD_inj {v w : List Nat} (h : nD v = nD w) : v = w := by
  unfold nD at h
  refine (List.map_inj_right fun a b e => ?_).mp h
  injection e with e
  omega
theorem wD_inj {v w : List Nat} (h : wD v = wD w) : v = w := by
  injection h with h
  exact nD_inj h
theorem wD_pl (w : List Nat) (n : Nat) : pl (wD w) (n + 1) = true := pl_tup fun d h => nD_pl h n
theorem rD_pl (r : Nat × Nat) (n : Nat) : pl (rD r) (n + 1) = true := pl_tup fun d h => by
  cases h with
  | head => exact pl_int _ _
  | tail _ h => cases h with
    | head => exact pl_int _ _
    | tail _ h => cases h
theorem rD_inj {r s : Nat × Nat} (h : rD r = rD s) : r = s := by
  unfold rD at h
  injection h with h
  simp only [List.cons.injEq, PyData.int.injEq, and_true] at h
  exact Prod.ext (by omega) (by omega)
theorem rsD_mem {rs : List (Nat × Nat)} {r : Nat × Nat} : rD r ∈ rs.map rD ↔ r ∈ rs := by
  rw [List.mem_map]
  exact ⟨fun ⟨s, h, e⟩ => rD_inj e ▸ h, fun h => ⟨r, h, rfl⟩⟩
theorem rsD_pl {rs : List (Nat × Nat)} {d : D} (h : d ∈ rs.map rD) (n : Nat) : pl d (n + 1) = true := by
  obtain ⟨r, _, rfl⟩ := List.mem_map.mp h
  exact rD_pl r n
def Lnk (rs : List (Nat × Nat)) (w : List Nat) : Prop := ∀ (i : Nat) a b, w[i]? = some a → w[i + 1]? = some b → (min a b, max a b) ∈ rs
structure WayOk (many : Nat) (rs : List (Nat × Nat)) (h : Nat) (w : List Nat) : Prop where
  hd : w[0]? = some h
  last : ∃ v, w = v ++ [0]
  nd : w.Nodup
  lt : ∀ x ∈ w, x < many
  lnk : Lnk rs w
theorem Lnk.add {rs : List (Nat × Nat)} {w : List Nat} {l n : Nat} (h : Lnk rs (w ++ [l])) (hn : (min l n, max l n) ∈ rs) : Lnk rs ((w ++ [l]) ++ [n]) := fun i a b ha hb => by
  by_cases hi : i + 1 < (w ++ [l]).length
  · rw [List.getElem?_append_left (by omega)] at ha
    rw [List.getElem?_append_left hi] at hb
    exact h i a b ha hb
  · have hlt : i + 1 < ((w ++ [l]) ++ [n]).length := (List.getElem?_eq_some_iff.mp hb).1
    simp only [List.length_append, List.length_cons, List.length_nil] at hi hlt
    have e : i = w.length := by omega
    subst e
    rw [List.getElem?_append_left (by simp), List.getElem?_append_right (by omega)] at ha
    rw [List.getElem?_append_right (by simp)] at hb
    simp at ha hb
    subst ha hb
    exact hn
end LW
namespace PF
open PySem PySem.Spec PyProof.Rows L2
theorem W_at3 {a b c : D} {i : Int} {Q : D → Prop} (h0 : 0 ≤ i) (h1 : i < 3) (ha : i = 0 → Q a) (hb : i = 1 → Q b) (hc : i = 2 → Q c) : W (atI [a, b, c] i) Q := by
  have : i = 0 ∨ i = 1 ∨ i = 2 := by omega
  rcases this with rfl | rfl | rfl
  · rw [W_at0]; exact ha rfl
  · rw [W_at1]; exact hb rfl
  · rw [W_at2]; exact hc rfl
end PF
namespace LW
open PySem PySem.Spec PyProof.Rows L2 PF
theorem draws_int (ns : List Int) {k m base : Int} (hk : 0 ≤ k) (hk2 : k < 1000) (hm : 0 ≤ m) (hm2 : m ≤ 1000) (hb : 0 < base) (hb2 : base < 1000000) :
    W (f_l_draws [scrD ns, .int k, .int m, .int base]) fun d => ∃ xs : List Int, d = .list (iD xs) ∧ (xs.length : Int) = m ∧ ∀ x ∈ xs, 0 ≤ x := by
  obtain ⟨k', rfl⟩ := Int.eq_ofNat_of_zero_le hk
  obtain ⟨m', rfl⟩ := Int.eq_ofNat_of_zero_le hm
  exact (draws_ok ns k' m' base (by omega) (by omega) hb hb2).mono fun d ⟨xs, h1, h2, h3⟩ => ⟨xs, h1, by omega, h3⟩
theorem W_draw {xs : List Int} {i : Int} {Q : D → Prop} (hx : ∀ x ∈ xs, 0 ≤ x) (h0 : 0 ≤ i) (h1 : i < xs.length) (h : ∀ v : Int, 0 ≤ v → Q (.int v)) : W (atI (iD xs) i) Q :=
  W_ints h0 h1 fun v hv => h v (hx v (List.mem_of_getElem? hv))
def prsTo (many i : Nat) : List (Nat × Nat) := (List.range i).flatMap fun a => (List.range (many - (a + 1))).map fun b => (a, a + 1 + b)
def prs (many : Nat) : List (Nat × Nat) := prsTo many many
theorem prs_mem (many a b : Nat) : (a, b) ∈ prs many ↔ a < b ∧ b < many := by
  unfold prs prsTo
  simp only [List.mem_flatMap, List.mem_range, List.mem_map, Prod.mk.injEq]
  constructor
  · rintro ⟨c, h1, d, h2, rfl, rfl⟩; omega
  · rintro ⟨h1, h2⟩; exact ⟨a, by omega, b - (a + 1), by omega, rfl, by omega⟩
theorem prs_len {many i : Nat} (h : many ≤ 7) (hi : i ≤ many) : (prsTo many i).length ≤ 21 := by
  have : ∀ m < 8, ∀ i < 8, i ≤ m → (prsTo m i).length ≤ 21 := by decide
  exact this many (by omega) i (by omega) hi
def wsD (ws : List (List Nat)) : D := .tuple (ws.map wD)
end LW
namespace PF
open PySem PySem.Spec PyProof.Rows L2
theorem W_popC (i iL : Nat) (vs : List Nat) (it : Env → Option (List D)) (bb : D → Env → Option Env) (g : Den) (ρ : Env) (R : Out → Prop) :
    W (dPopC i iL vs it bb g ρ) R = Lo ρ iL fun xs => W (it ρ) fun items => W (popL iL vs bb g ρ items xs) fun p => Pt ρ iL (.own p.2) fun ρ' => Pt ρ' i (.val (.list p.1)) fun ρ'' => R (.next ρ'') := by
  unfold dPopC
  split
  · rename_i xs e
    rw [Lo_of e, W_bind]
    simp only [W_map]
    rfl
  · rename_i hn
    rw [W_none]
    exact propext ⟨fun z => False.elim z, fun ⟨xs, e, _⟩ => hn xs e⟩
theorem erase_perm : ∀ (xs : List D) {j : Nat} (h : j < xs.length), (xs[j] :: xs.eraseIdx j).Perm xs
  | x :: xs, 0, _ => List.Perm.refl _
  | x :: xs, j + 1, h => by
    rw [List.getElem_cons_succ, List.eraseIdx_cons_succ]
    exact (List.Perm.swap _ _ _).trans ((erase_perm xs (by simpa using h)).cons x)
theorem nodup_of_map {α β : Type} {f : α → β} {l : List α} (h : (l.map f).Nodup) : l.Nodup := by
  have := List.pairwise_map.mp h
  exact this.imp fun n e => n (congrArg f e)
theorem nodup_get {α : Type} {l : List α} (h : l.Nodup) {i j : Nat} {a : α} (h1 : l[i]? = some a) (h2 : l[j]? = some a) : i = j := (List.getElem?_inj (List.getElem?_eq_some_iff.mp h1).1 h).mp (h1.trans h2.symm)
theorem popL_ok {iL : Nat} {vs : List Nat} {bb : D → Env → Option Env} {g : Den} {ρ : Env} : ∀ (items xs : List D), items.length ≤ xs.length → xs.length < 1000000 →
    (∀ x ∈ items, ∀ ys : List D, 0 < ys.length → W (bb x (wipeE (ρ.set iL (some (.own ys))) vs)) fun ρ1 => ρ1[iL]? = some (some (.own ys)) ∧ W (g ρ1) fun d => ∃ k : Int, d = .int k ∧ 0 ≤ k ∧ k < ys.length) →
    W (popL iL vs bb g ρ items xs) fun p => p.1.length = items.length ∧ (p.1 ++ p.2).Perm xs
  | [], xs, _, _, _ => ⟨_, rfl, rfl, List.Perm.refl _⟩
  | x :: items, xs, hl, hs, h => by
    have hl' : items.length + 1 ≤ xs.length := hl
    obtain ⟨ρ1, e1, e2, d, e3, k, rfl, k0, k1⟩ := h x (List.mem_cons_self ..) xs (by omega)
    have hj : k.toNat < xs.length := by omega
    have el : (xs.eraseIdx k.toNat).length = xs.length - 1 := List.length_eraseIdx_of_lt hj
    obtain ⟨p, e4, p1, p2⟩ := popL_ok (iL := iL) (vs := vs) (bb := bb) (g := g) (ρ := ρ) items (xs.eraseIdx k.toNat) (by rw [el]; omega) (by rw [el]; omega) fun y hy => h y (List.mem_cons_of_mem _ hy)
    unfold popL
    rw [e1, Option.bind_some, e2, e3]
    simp only
    rw [if_pos ⟨by omega, by omega⟩, ixN_nat k0 k1, Option.bind_some, List.getElem?_eq_getElem hj, Option.bind_some, e4]
    refine ⟨_, rfl, by simp [p1], ?_⟩
    exact (p2.cons _).trans (erase_perm xs hj)
end PF
namespace LW
open PySem PySem.Spec PyProof.Rows L2 PF
def lsD (ls : List (List (List Nat))) : D := .tuple (ls.map wsD)
def gD (many : Nat) (rs : List (Nat × Nat)) (ls : List (List (List Nat))) : D := .tuple [.int (many : Nat), rsD rs, lsD ls]
end LW
namespace LW
open PySem PySem.Spec PyProof.Rows L2 PF
end LW
namespace LW
open PySem PySem.Spec PyProof.Rows L2 PF
def sD (st : List (List Nat)) : D := .tuple (st.map wD)
theorem wD_drop (w : List Nat) (k : Nat) : PF.cutD (nD w) (some (k : Int)) none = nD (w.drop k) := by rw [cut_all]; unfold nD; rw [List.map_drop]
theorem W_ixW (w : List Nat) (j : Int) (Q : D → Prop) : W (aIx (wD w) (.int j)) Q = W (atI (nD w) j) Q := rfl
theorem W_ixWs (ws : List (List Nat)) (j : Int) (Q : D → Prop) : W (aIx (wsD ws) (.int j)) Q = W (atI (ws.map wD) j) Q := rfl
theorem W_ixLs (ls : List (List (List Nat))) (j : Int) (Q : D → Prop) : W (aIx (lsD ls) (.int j)) Q = W (atI (ls.map wsD) j) Q := rfl
theorem W_ixSt (st : List (List Nat)) (j : Int) (Q : D → Prop) : W (aIx (sD st) (.int j)) Q = W (atI (st.map wD) j) Q := rfl
theorem W_ixG0 (many : Nat) (rs : List (Nat × Nat)) (ls : List (List (List Nat))) (Q : D → Prop) : W (aIx (gD many rs ls) (.int 0)) Q = Q (.int many) := W_at0 _ _ _
theorem W_ixG1 (many : Nat) (rs : List (Nat × Nat)) (ls : List (List (List Nat))) (Q : D → Prop) : W (aIx (gD many rs ls) (.int 1)) Q = Q (rsD rs) := W_at1 _ _ _ _
theorem W_ixG2 (many : Nat) (rs : List (Nat × Nat)) (ls : List (List (List Nat))) (Q : D → Prop) : W (aIx (gD many rs ls) (.int 2)) Q = Q (lsD ls) := W_at2 _ _ _ _ _
theorem W_itW (w : List Nat) (Q : List D → Prop) : W (itm (wD w)) Q = Q (nD w) := W_some _ _
theorem W_itWs (ws : List (List Nat)) (Q : List D → Prop) : W (itm (wsD ws)) Q = Q (ws.map wD) := W_some _ _
theorem W_itLs (ls : List (List (List Nat))) (Q : List D → Prop) : W (itm (lsD ls)) Q = Q (ls.map wsD) := W_some _ _
theorem W_itSt (st : List (List Nat)) (Q : List D → Prop) : W (itm (sD st)) Q = Q (st.map wD) := W_some _ _
theorem W_itRs (rs : List (Nat × Nat)) (Q : List D → Prop) : W (itm (rsD rs)) Q = Q (rs.map rD) := W_some _ _
theorem W_itKW (w : List Nat) (Q : List D → Prop) : W (itmK (wD w)) Q = Q (nD w) := W_some _ _
theorem W_itKWs (ws : List (List Nat)) (Q : List D → Prop) : W (itmK (wsD ws)) Q = Q (ws.map wD) := W_some _ _
theorem W_itKLs (ls : List (List (List Nat))) (Q : List D → Prop) : W (itmK (lsD ls)) Q = Q (ls.map wsD) := W_some _ _
theorem W_itKSt (st : List (List Nat)) (Q : List D → Prop) : W (itmK (sD st)) Q = Q (st.map wD) := W_some _ _
theorem W_itKRs (rs : List (Nat × Nat)) (Q : List D → Prop) : W (itmK (rsD rs)) Q = Q (rs.map rD) := W_some _ _
theorem W_lnW (w : List Nat) (Q : D → Prop) : W (bLen [wD w]) Q = Q (.int w.length) := by unfold wD; rw [W_lenT, nD_len]
theorem W_lnWs (ws : List (List Nat)) (Q : D → Prop) : W (bLen [wsD ws]) Q = Q (.int ws.length) := by unfold wsD; rw [W_lenT, List.length_map]
theorem W_lnLs (ls : List (List (List Nat))) (Q : D → Prop) : W (bLen [lsD ls]) Q = Q (.int ls.length) := by unfold lsD; rw [W_lenT, List.length_map]
theorem W_lnSt (st : List (List Nat)) (Q : D → Prop) : W (bLen [sD st]) Q = Q (.int st.length) := by unfold sD; rw [W_lenT, List.length_map]
theorem W_cutW (w : List Nat) (l h : Option Int) (Q : D → Prop) : W (aCut (wD w) l h) Q = Q (.tuple (PF.cutD (nD w) l h)) := W_some _ _
theorem W_eqW (v w : List Nat) (Q : D → Prop) : W (aCmp .Eq (wD v) (wD w)) Q = Q (.bool (decide (v = w))) := by
  rw [W_eqP 1 1 (by omega) (by omega) (wD_pl _ 0) (wD_pl _ 0)]
  congr 2
  exact decide_eq_decide.mpr ⟨wD_inj, fun e => e ▸ rfl⟩
theorem W_eqW' (v w : List Nat) (Q : D → Prop) : W (aCmp .Eq (wD v) (.tuple (nD w))) Q = Q (.bool (decide (v = w))) := W_eqW v w Q
theorem W_neW (v w : List Nat) (Q : D → Prop) : W (aCmp .NotEq (wD v) (wD w)) Q = Q (.bool (decide (¬v = w))) := by
  rw [W_neP 1 1 (by omega) (by omega) (wD_pl _ 0) (wD_pl _ 0)]
  congr 2
  exact decide_eq_decide.mpr (not_congr ⟨wD_inj, fun e => e ▸ rfl⟩)
theorem sD_pl (st : List (List Nat)) (n : Nat) : pl (sD st) (n + 2) = true := pl_tup fun d hd => by
  obtain ⟨w, _, rfl⟩ := List.mem_map.mp hd
  exact wD_pl w n
theorem sD_inj {a b : List (List Nat)} (h : sD a = sD b) : a = b := by
  injection h with h
  exact (List.map_inj_right fun _ _ e => wD_inj e).mp h
theorem W_eqS (v w : List (List Nat)) (Q : D → Prop) : W (aCmp .Eq (sD v) (sD w)) Q = Q (.bool (decide (v = w))) := by
  rw [W_eqP 2 2 (by omega) (by omega) (sD_pl _ 0) (sD_pl _ 0)]
  congr 2
  exact decide_eq_decide.mpr ⟨sD_inj, fun e => e ▸ rfl⟩
theorem W_neS (v w : List (List Nat)) (Q : D → Prop) : W (aCmp .NotEq (sD v) (sD w)) Q = Q (.bool (decide (¬v = w))) := by
  rw [W_neP 2 2 (by omega) (by omega) (sD_pl _ 0) (sD_pl _ 0)]
  congr 2
  exact decide_eq_decide.mpr (not_congr ⟨sD_inj, fun e => e ▸ rfl⟩)
def eg := And.intro @W_itKW <| And.intro @W_itKWs <| And.intro @W_itKLs <| And.intro @W_itKSt <| And.intro @W_itKRs <| And.intro @W_eqW <| And.intro @W_eqW' <| And.intro @W_neW <| And.intro @W_eqS <| And.intro @W_neS <| And.intro @W_ixW <| And.intro @W_ixWs <| And.intro @W_ixLs <| And.intro @W_ixSt <| And.intro @W_ixG0 <| And.intro @W_ixG1 <| And.intro @W_ixG2 <| And.intro @W_itW <| And.intro @W_itWs <| And.intro @W_itLs <| And.intro @W_itSt <| And.intro @W_itRs <| And.intro @W_lnW <| And.intro @W_lnWs <| And.intro @W_lnLs <| And.intro @W_lnSt <| @W_cutW
end LW
namespace LW
open PySem PySem.Spec PyProof.Rows L2 PF
def subs : Nat → List (List Nat)
  | 0 => [[]]
  | n + 1 => subs n ++ (subs n).map (· ++ [n + 1])
theorem subs_mem : ∀ n t, t ∈ subs n → ∀ x ∈ t, 1 ≤ x ∧ x ≤ n
  | 0, t, h, x, hx => by
    rw [subs, List.mem_singleton] at h
    subst h
    cases hx
  | n + 1, t, h, x, hx => by
    rw [subs, List.mem_append, List.mem_map] at h
    rcases h with h | ⟨s, h, rfl⟩
    · have := subs_mem n t h x hx; omega
    · rw [List.mem_append, List.mem_singleton] at hx
      rcases hx with hx | hx
      · have := subs_mem n s h x hx; omega
      · omega
def TurnOk (many : Nat) (t : List Nat) : Prop := t ∈ (subs (many - 1)).drop 1
theorem TurnOk.lt {many : Nat} {t : List Nat} (h : TurnOk many t) {x : Nat} (hx : x ∈ t) : 1 ≤ x ∧ x < many := by
  have := subs_mem _ t (List.mem_of_mem_drop h) x hx
  omega
end LW
namespace PF
open PySem PySem.Spec PyProof.Rows L2
theorem W_isi (ks : List Kd) (f : Den) (ρ : Env) (Q : D → Prop) : W (dIsi ks f ρ) Q = W (f ρ) fun d => W (aIsi ks d) Q := by unfold dIsi; rw [W_bind]
theorem W_isiI (ks : List Kd) (i : Int) (Q : D → Prop) : W (aIsi ks (.int i)) Q = Q (.bool (ks.any (isK · (.int i)))) := W_some _ _
theorem W_isiB (ks : List Kd) (b : Bool) (Q : D → Prop) : W (aIsi ks (.bool b)) Q = Q (.bool (ks.any (isK · (.bool b)))) := W_some _ _
theorem W_isiN (ks : List Kd) (Q : D → Prop) : W (aIsi ks .none) Q = Q (.bool (ks.any (isK · .none))) := W_some _ _
theorem W_isiS (ks : List Kd) (s : Str) (Q : D → Prop) : W (aIsi ks (.str s)) Q = Q (.bool (ks.any (isK · (.str s)))) := W_some _ _
theorem W_isiL (ks : List Kd) (ds : List D) (Q : D → Prop) : W (aIsi ks (.list ds)) Q = Q (.bool (ks.any (isK · (.list ds)))) := W_some _ _
theorem W_isiT (ks : List Kd) (ds : List D) (Q : D → Prop) : W (aIsi ks (.tuple ds)) Q = Q (.bool (ks.any (isK · (.tuple ds)))) := W_some _ _
theorem W_eqB (a b : Bool) (Q : D → Prop) : W (aCmp .Eq (.bool a) (.bool b)) Q = Q (.bool (decide (a = b))) := by
  show W (aEq _ _) Q = _
  unfold aEq
  rw [if_pos ⟨by simp [SeqAt.shaped, PyData.canLay0, PyData.depth], by simp [SeqAt.shaped, PyData.canLay0, PyData.depth]⟩, W_some]
  cases a <;> cases b <;> simp [PyData.eqv]
theorem W_neB (a b : Bool) (Q : D → Prop) : W (aCmp .NotEq (.bool a) (.bool b)) Q = Q (.bool (decide (¬a = b))) := by
  show W (aNe _ _) Q = _
  unfold aNe
  rw [if_pos ⟨by simp [SeqAt.shaped, PyData.canLay0, PyData.depth], by simp [SeqAt.shaped, PyData.canLay0, PyData.depth]⟩, W_some]
  cases a <;> cases b <;> simp [PyData.eqv]
theorem bools_map : ∀ bs : List Bool, boolsOf (bs.map PyData.bool) = some bs
  | [] => rfl
  | b :: bs => by rw [List.map_cons, boolsOf, bools_map bs]; rfl
theorem W_all (bs : List Bool) (Q : D → Prop) : W (bAll [.list (bs.map PyData.bool)]) Q = Q (.bool (bs.all id)) := by
  show W ((boolsOf _).map _) Q = _
  rw [bools_map]
  exact W_some _ _
def e2 := And.intro @W_isi <| And.intro @W_isiI <| And.intro @W_isiB <| And.intro @W_isiN <| And.intro @W_isiS <| And.intro @W_isiL <| And.intro @W_isiT <| And.intro @W_eqB <| @W_neB
theorem rg_map (a : Nat) {x : Int} {b : Int} (hx : x = a) : rgD x b = (List.range (b - a).toNat).map fun n => PyData.int ((a + n : Nat) : Int) := by
  subst hx
  unfold rgD rgI
  rw [List.map_map]
  refine List.map_congr_left fun n _ => ?_
  simp
theorem comp_typed {α : Type} {b : D → Env → Option Env} {e : Den} {ρ0 : Env} (as : List α) (to g : α → D) (h : ∀ a ∈ as, W (b (to a) ρ0) fun ρ1 => W (e ρ1) fun d => d = g a) : compL b (fun _ => some true) e ρ0 (as.map to) = some (as.map g) := by
  induction as with
  | nil => rfl
  | cons a as ih =>
    obtain ⟨ρ1, e1, d, e2, rfl⟩ := h a (List.mem_cons_self ..)
    rw [List.map_cons]
    unfold compL
    rw [e1, Option.bind_some, Option.bind_some, if_pos rfl, e2, ih fun a ha => h a (List.mem_cons_of_mem _ ha)]
    rfl
theorem comp_typed_if {α : Type} {b : D → Env → Option Env} {c : Env → Option Bool} {e : Den} {ρ0 : Env} (as : List α) (to g : α → D) (p : α → Bool) (h : ∀ a ∈ as, W (b (to a) ρ0) fun ρ1 => W (c ρ1) fun k => k = p a ∧ (k = true → W (e ρ1) fun d => d = g a)) : compL b c e ρ0 (as.map to) = some ((as.filter p).map g) := by
  induction as with
  | nil => rfl
  | cons a as ih =>
    obtain ⟨ρ1, e1, k, e2, hk, h3⟩ := h a (List.mem_cons_self ..)
    have ih' := ih fun a ha => h a (List.mem_cons_of_mem _ ha)
    rw [List.map_cons]
    unfold compL
    rw [e1, Option.bind_some, e2, Option.bind_some, ih']
    by_cases hp : p a = true
    · rw [hp] at hk
      obtain ⟨d, e4, rfl⟩ := h3 hk
      rw [if_pos hk, e4, List.filter_cons_of_pos hp]; rfl
    · have : k ≠ true := fun z => hp (hk ▸ z)
      rw [if_neg this, List.filter_cons_of_neg hp]
theorem W_eq {o : Option D} {d : D} (h : W o fun x => x = d) : o = some d := by
  obtain ⟨x, h2, rfl⟩ := h
  exact h2
end PF
namespace LW
open PySem PySem.Spec PyProof.Rows L2 PF
end LW
namespace PF
open PySem PySem.Spec PyProof.Rows L2
theorem Enc.comap {α β : Type} [DecidableEq α] [DecidableEq β] {lt : α → α → Bool} {to : α → D} (h : Enc to lt) (f : β → α) (hf : ∀ a b, f a = f b → a = b) : Enc (fun b => to (f b)) (fun a b => lt (f a) (f b)) :=
  ⟨fun a b => h.alike _ _, fun a b => by rw [h.eqv]; exact decide_eq_decide.mpr ⟨hf a b, fun e => by rw [e]⟩, fun a b => h.lt_eq _ _⟩
theorem Ordr.comap {α β : Type} {lt : α → α → Bool} (h : Ordr lt) (f : β → α) (hf : ∀ a b, f a = f b → a = b) : Ordr (fun a b => lt (f a) (f b)) :=
  ⟨fun a => h.irr _, fun a b c => h.tr _ _ _, fun a b h1 h2 => hf a b (h.tot _ _ h1 h2)⟩
theorem zipD_eq : ∀ (xs ys : List D), zipD xs ys = (xs.zip ys).map fun p => PyData.tuple [p.1, p.2]
  | [], _ => by simp [zipD]
  | _ :: _, [] => by simp [zipD]
  | x :: xs, y :: ys => by simp [zipD, zipD_eq xs ys]
end PF
namespace LW
open PySem PySem.Spec PyProof.Rows L2 PF
def pr2 (r : Nat × Nat) : List Nat := [r.1, r.2]
theorem pr2_inj (a b : Nat × Nat) (h : pr2 a = pr2 b) : a = b := by
  unfold pr2 at h
  simp only [List.cons.injEq, and_true] at h
  exact Prod.ext h.1 h.2
def rlt (a b : Nat × Nat) : Bool := lxLt natLt (pr2 a) (pr2 b)
theorem encR : Enc rD rlt := encNat.tup.comap pr2 pr2_inj
theorem ordR : Ordr rlt := ordNat.lx.comap pr2 pr2_inj
def tD (many : Nat) (ss ps : List (Nat × Nat)) : D := .tuple [.int (many : Nat), rsD ss, rsD ps]
def nrm (r : Nat × Nat) : Nat × Nat := (min r.1 r.2, max r.1 r.2)
structure TrOk (most many : Nat) (ss ps : List (Nat × Nat)) : Prop where
  lo : 2 ≤ many
  hi : many ≤ most
  sal : ss.Pairwise fun a b => rlt a b = true
  per : ps.Pairwise fun a b => rlt a b = true
  nd : (ss.map nrm ++ ps).Nodup
  mem : ∀ r ∈ ss.map nrm ++ ps, r ∈ prs many
theorem rlt_iff (a b : Nat × Nat) : rlt a b = true ↔ a.1 < b.1 ∨ a.1 = b.1 ∧ a.2 < b.2 := by
  unfold rlt pr2
  simp only [lxLt, natLt]
  by_cases h : a.1 = b.1
  · rw [if_pos h]
    by_cases h2 : a.2 = b.2
    · rw [if_pos h2]; simp; omega
    · rw [if_neg h2]; simp only [decide_eq_true_eq]; omega
  · rw [if_neg h]; simp only [decide_eq_true_eq]; omega
def Ahead (i j : Nat) (r : Nat × Nat) : Prop := r.1 < i ∨ r.1 = i ∧ r.2 < j
structure TrI (many i j : Nat) (ss ps : List (Nat × Nat)) : Prop where
  per : ps.Pairwise fun a b => rlt a b = true
  nd : (ss.map nrm ++ ps).Nodup
  mem : ∀ r ∈ ss.map nrm ++ ps, r ∈ prs many
  ah : ∀ r ∈ ss.map nrm ++ ps, Ahead i j r
theorem TrI.skip {many i j : Nat} {ss ps : List (Nat × Nat)} (h : TrI many i j ss ps) : TrI many i (j + 1) ss ps := ⟨h.per, h.nd, h.mem, fun r hr => by have := h.ah r hr; unfold Ahead at *; omega⟩
theorem TrI.next {many i j : Nat} {ss ps : List (Nat × Nat)} (h : TrI many i j ss ps) : TrI many (i + 1) (i + 2) ss ps := ⟨h.per, h.nd, h.mem, fun r hr => by have := h.ah r hr; unfold Ahead at *; omega⟩
theorem TrI.sale {many i j : Nat} {ss ps : List (Nat × Nat)} (h : TrI many i j ss ps) (hij : i < j) (hj : j < many) {r : Nat × Nat} (hr : nrm r = (i, j)) : TrI many i (j + 1) (ss ++ [r]) ps := by
  have hp : (ss.map nrm ++ (i, j) :: ps).Perm ((i, j) :: (ss.map nrm ++ ps)) := List.perm_middle
  have e : (ss ++ [r]).map nrm ++ ps = ss.map nrm ++ (i, j) :: ps := by simp [hr]
  refine ⟨h.per, ?_, ?_, ?_⟩
  · rw [e, hp.nodup_iff, List.nodup_cons]
    refine ⟨fun hm => ?_, h.nd⟩
    have := h.ah _ hm
    unfold Ahead at this
    omega
  · intro q hq
    rw [e] at hq
    rcases List.mem_cons.mp (hp.subset hq) with rfl | hq
    · rw [prs_mem]; omega
    · exact h.mem q hq
  · intro q hq
    rw [e] at hq
    rcases List.mem_cons.mp (hp.subset hq) with rfl | hq
    · unfold Ahead; omega
    · have := h.ah q hq; unfold Ahead at *; omega
theorem TrI.peer {many i j : Nat} {ss ps : List (Nat × Nat)} (h : TrI many i j ss ps) (hij : i < j) (hj : j < many) : TrI many i (j + 1) ss (ps ++ [(i, j)]) := by
  have e : ss.map nrm ++ (ps ++ [(i, j)]) = (ss.map nrm ++ ps) ++ [(i, j)] := by simp
  refine ⟨?_, ?_, ?_, ?_⟩
  · rw [List.pairwise_append]
    refine ⟨h.per, by simp, fun a ha b hb => ?_⟩
    rw [List.mem_singleton] at hb
    subst hb
    have := h.ah a (List.mem_append_right _ ha)
    rw [rlt_iff]
    unfold Ahead at this
    exact this
  · rw [e, List.nodup_append]
    refine ⟨h.nd, by simp, fun a ha b hb z => ?_⟩
    rw [List.mem_singleton] at hb
    subst hb z
    have := h.ah _ ha
    unfold Ahead at this
    omega
  · intro q hq
    rw [e, List.mem_append, List.mem_singleton] at hq
    rcases hq with hq | rfl
    · exact h.mem q hq
    · rw [prs_mem]; omega
  · intro q hq
    rw [e, List.mem_append, List.mem_singleton] at hq
    rcases hq with hq | rfl
    · have := h.ah q hq; unfold Ahead at *; omega
    · unfold Ahead; omega
theorem TrI.few {many i j : Nat} {ss ps : List (Nat × Nat)} (h : TrI many i j ss ps) (hm : many ≤ 7) : ss.length + ps.length ≤ 21 := by
  have h1 := List.Nodup.length_le_of_subset h.nd h.mem
  have h2 := prs_len (many := many) (i := many) hm (Nat.le_refl _)
  have h3 : (prs many).length ≤ 21 := h2
  simp only [List.length_append, List.length_map] at h1
  omega
theorem trade_ok (ns : List Int) (att most : Nat) (h1 : att < 900) (h2 : 2 ≤ most) (h3 : most ≤ 7) :
    W (f_l_trade [scrD ns, .int att, .int most]) fun d => ∃ many ss ps, d = tD many ss ps ∧ TrOk most many ss ps := by
  refine W_run ?_
  simp only [den_l_trade, ex_all]
  try simp only [↓ev_all]
  refine (draws_int ns (by omega) (by omega) (by omega) (by omega) (by omega) (by omega)).mono fun d ⟨xs, hd, hl, hx⟩ => ?_
  subst hd
  simp only [↓ev_all]
  refine W_draw hx (by omega) (by omega) fun a ha => ?_
  simp only [↓ev_all]
  refine ⟨by omega, W_draw hx (by omega) (by omega) fun b hb => ?_⟩
  simp only [↓ev_all]
  have b1 := mod_b a (most - 1) (by omega)
  have b2 := mod_b b 3 (by omega)
  refine ⟨by omega, ?_⟩
  refine (W_at3 (Q := fun d => ∃ n : Nat, d = .int n ∧ 2 ≤ n ∧ n ≤ most) b2.1 b2.2 (fun _ => ?_) (fun _ => ⟨_, rfl, by omega, by omega⟩) (fun _ => ?_)).mono fun d ⟨n, hd, n0, n6⟩ => ?_
  · obtain ⟨m, hm⟩ := Int.eq_ofNat_of_zero_le b1.1
    exact ⟨2 + m, by rw [hm]; simp, by omega, by omega⟩
  · exact ⟨min 4 most, by congr 1; omega, by omega, by omega⟩
  subst hd
  simp only [↓ev_all, ↓W_popC]
  refine ⟨rg_ok (by omega) (by omega) (by omega) (by omega), rg_ok (by omega) (by omega) (by omega) (by omega), ?_⟩
  refine (popL_ok _ _ (by rw [rg_len]; omega) (by rw [rg_len]; omega) fun x hx' ys hy => ?_).mono fun p ⟨p1, p2⟩ => ?_
  · obtain ⟨m, rfl, hm⟩ := rg_mem hx'
    simp only [wipeE, List.set_cons_succ, List.set_cons_zero]
    try simp only [↓ev_all]
    refine ⟨rfl, W_draw hx (by omega) (by omega) fun b hb => ?_⟩
    try simp only [↓ev_all]
    have := mod_b b ys.length (by omega)
    exact ⟨by omega, _, rfl, this.1, this.2⟩
  rw [rg_len] at p1
  have hp : ∀ d ∈ p.1, ∃ m : Nat, d = .int m := fun d hd => by
    obtain ⟨m, h, _⟩ := rg_mem (p2.subset (List.mem_append_left _ hd))
    exact ⟨m, by rw [h]; congr 1; omega⟩
  have hget : ∀ i : Int, 0 ≤ i → i < n → ∃ m : Nat, atI p.1 i = some (.int m) := fun i h0 h1 => by
    have hi : i.toNat < p.1.length := by omega
    obtain ⟨m, hm⟩ := hp _ (List.getElem_mem hi)
    exact ⟨m, at_nat (j := i.toNat) (by omega) (by rw [List.getElem?_eq_getElem hi, hm])⟩
  try simp only [↓ev_all, ↓ev4]
  refine ⟨rg_ok (by omega) (by omega) (by omega) (by omega), ?_⟩
  refine W_forR (fun i ρ => ∃ (ss ps : List (Nat × Nat)) (x7 x10 x11 x12 x13 x14 : Option SV), TrI n i (i + 1) ss ps ∧ ρ = [some (.val (scrD ns)), some (.val (.int att)), some (.val (.int most)), some (.val (.list (iD xs))), some (.val (.int n)), some (.own p.2), some (.val (.list p.1)), x7, some (.own (ss.map rD)), some (.own (ps.map rD)), x10, x11, x12, x13, x14]) ⟨[], [], _, _, _, _, _, _, ⟨by simp, by simp, fun r h => (by cases h), fun r h => (by cases h)⟩, rfl⟩ ?zEnd ?zStep
  case zEnd =>
    rintro ρ ⟨ss, ps, x7, x10, x11, x12, x13, x14, hI, rfl⟩
    have hf := hI.few (by omega)
    try simp only [↓ev_all, ↓W_srtL]
    refine ⟨encR.sortOk (n := 1) (fun a => rD_pl a 0) (by omega) _ (.inl fun r _ => rfl) (by show _ ≤ 16777216; omega), ?_⟩
    rw [encR.srt]
    have hss : (ss.map nrm).Nodup := (List.nodup_append.mp hI.nd).1
    have hpm : ((srt rlt ss).map nrm ++ ps).Perm (ss.map nrm ++ ps) := ((srt_perm ss).map nrm).append_right ps
    refine ⟨n, srt rlt ss, ps, rfl, n0, n6, srt_strict ordR (PF.nodup_of_map hss), hI.per, hpm.nodup_iff.mpr hI.nd, fun r hr => hI.mem r (hpm.subset hr)⟩
  case zStep =>
    rintro i ρ hi ⟨ss, ps, x7, x10, x11, x12, x13, x14, hI, rfl⟩
    try simp only [↓ev_all]
    refine ⟨rg_ok (by omega) (by omega) (by omega) (by omega), ?_⟩
    refine W_forR (fun j ρ => ∃ (ss ps : List (Nat × Nat)) (x10 x11 x12 x13 x14 : Option SV), TrI n i (i + 1 + j) ss ps ∧ ρ = [some (.val (scrD ns)), some (.val (.int att)), some (.val (.int most)), some (.val (.list (iD xs))), some (.val (.int n)), some (.own p.2), some (.val (.list p.1)), some (.val (.int (0 + (i : Int)))), some (.own (ss.map rD)), some (.own (ps.map rD)), x10, x11, x12, x13, x14]) ⟨ss, ps, _, _, _, _, _, hI, rfl⟩ ?yEnd ?yStep
    case yEnd =>
      rintro ρ ⟨ss, ps, x10, x11, x12, x13, x14, hI, rfl⟩
      exact ⟨ss, ps, _, _, _, _, _, _, hI.next, rfl⟩
    case yStep =>
      rintro j ρ hj ⟨ss, ps, x10, x11, x12, x13, x14, hI, rfl⟩
      have hf := hI.few (by omega)
      have hrw : PyData.tuple [.int (0 + (i : Int)), .int (0 + (i : Int) + 1 + (j : Int))] = rD (i, i + 1 + j) := by
        unfold rD
        congr 3
        · congr 1; omega
        · congr 2; simp
      have hrv : PyData.tuple [.int (0 + (i : Int)), .int (0 + (i : Int) + 1 + (j : Int))].reverse = rD (i + 1 + j, i) := by
        unfold rD
        simp only [List.reverse_cons, List.reverse_nil, List.nil_append, List.cons_append]
        congr 3
        · congr 1; simp
        · congr 2; omega
      try simp only [↓ev_all]
      refine ⟨by omega, ?_⟩
      refine W_draw hx (by omega) (by omega) fun c hc => ?_
      have hsale : ∀ (r : Nat × Nat), nrm r = (i, i + 1 + j) → ∃ (ss' ps' : List (Nat × Nat)), TrI n i (i + 1 + (j + 1)) ss' ps' ∧ ss.map rD ++ [rD r] = ss'.map rD ∧ ps.map rD = ps'.map rD := fun r hr => ⟨ss ++ [r], ps, hI.sale (by omega) (by omega) hr, by rw [List.map_append]; rfl, rfl⟩
      have hl8 : (ss.map rD).length < sizeLine := by rw [List.length_map]; show _ < 16777216; omega
      have hl9 : (ps.map rD).length < sizeLine := by rw [List.length_map]; show _ < 16777216; omega
      have n1 : nrm (i, i + 1 + j) = (i, i + 1 + j) := by unfold nrm; exact Prod.ext (by simp; omega) (by simp; omega)
      have n2 : nrm (i + 1 + j, i) = (i, i + 1 + j) := by unfold nrm; exact Prod.ext (by simp; omega) (by simp; omega)
      try simp only [↓ev_all]
      refine ⟨by omega, fun _ => ?_, fun _ => ⟨by omega, fun _ => ?_, fun _ => ?_⟩⟩
      · refine W_draw hx (by omega) (by omega) fun c2 hc2 => ?_
        try simp only [↓ev_all]
        refine ⟨by omega, fun _ => ?_, fun _ => ?_⟩
        · obtain ⟨m1, e1⟩ := hget (0 + (i : Int)) (by omega) (by omega)
          obtain ⟨m2, e2⟩ := hget (0 + (i : Int) + 1 + (j : Int)) (by omega) (by omega)
          refine W.of e1 (W.of e2 ?_)
          simp only [↓ev_all, ↓ev4]
          obtain ⟨ss1, ps1, t1, t2, t3⟩ := hsale _ n1
          obtain ⟨ss2, ps2, u1, u2, u3⟩ := hsale _ n2
          exact ⟨fun _ => ⟨hl8, ss1, ps1, _, _, _, _, _, t1, by rw [← t2, ← t3, ← hrw]⟩, fun _ => ⟨hl8, ss2, ps2, _, _, _, _, _, u1, by rw [← u2, ← u3, ← hrv]⟩⟩
        · refine ⟨by omega, by omega, ?_⟩
          simp only [↓ev_all, ↓ev4]
          obtain ⟨ss1, ps1, t1, t2, t3⟩ := hsale _ n1
          obtain ⟨ss2, ps2, u1, u2, u3⟩ := hsale _ n2
          exact ⟨fun _ => ⟨hl8, ss1, ps1, _, _, _, _, _, t1, by rw [← t2, ← t3, ← hrw]⟩, fun _ => ⟨hl8, ss2, ps2, _, _, _, _, _, u1, by rw [← u2, ← u3, ← hrv]⟩⟩
      · refine ⟨hl9, ?_⟩
        exact ⟨ss, ps ++ [(i, i + 1 + j)], _, _, _, _, _, hI.peer (by omega) (by omega), by rw [List.map_append, List.map_cons, List.map_nil, ← hrw]⟩
      · exact ⟨ss, ps, _, _, _, _, _, hI.skip, rfl⟩
end LW
namespace LW
open PySem PySem.Spec PyProof.Rows L2 PF
structure PartOk (many : Nat) (rs : List (Nat × Nat)) (h : Nat) (p : List Nat) : Prop where
  hd : p[0]? = some h
  nd : p.Nodup
  lt : ∀ x ∈ p, x < many
  nz : 0 ∉ p
  lnk : Lnk rs p
theorem PartOk.ne {many : Nat} {rs : List (Nat × Nat)} {h : Nat} {p : List Nat} (ok : PartOk many rs h p) : ∃ q l, p = q ++ [l] := by
  cases e : p with
  | nil => have := ok.hd; rw [e] at this; cases this
  | cons a r => exact ⟨(a :: r).dropLast, (a :: r).getLast (by simp), (List.dropLast_concat_getLast (by simp)).symm⟩
theorem PartOk.few {many : Nat} {rs : List (Nat × Nat)} {h : Nat} {p : List Nat} (ok : PartOk many rs h p) : p.length + 1 ≤ many := by
  have h0 : (0 :: p).Nodup := List.nodup_cons.mpr ⟨ok.nz, ok.nd⟩
  have hm : h < many := ok.lt h (List.mem_of_getElem? ok.hd)
  have := List.Nodup.length_le_of_subset (l₁ := 0 :: p) (l₂ := List.range many) h0 fun a ha => by
    rcases List.mem_cons.mp ha with rfl | ha
    · exact List.mem_range.mpr (by omega)
    · exact List.mem_range.mpr (ok.lt a ha)
  simpa using this
def nearOf (many : Nat) (rs : List (Nat × Nat)) (p : List Nat) (l : Nat) : List Nat := ((List.range many).filter fun o => decide (¬o ∈ p)).filter fun o => decide ((min l o, max l o) ∈ rs)
theorem nearOf_nd (many : Nat) (rs : List (Nat × Nat)) (p : List Nat) (l : Nat) : (nearOf many rs p l).Nodup := (List.nodup_range.filter _).filter _
theorem nearOf_mem {many : Nat} {rs : List (Nat × Nat)} {p : List Nat} {l o : Nat} : o ∈ nearOf many rs p l ↔ o < many ∧ o ∉ p ∧ (min l o, max l o) ∈ rs := by
  unfold nearOf
  simp only [List.mem_filter, List.mem_range, decide_eq_true_eq]
  exact ⟨fun h => ⟨h.1.1, h.1.2, h.2⟩, fun h => ⟨⟨h.1, h.2.1⟩, h.2.2⟩⟩
theorem lnk_app {rs : List (Nat × Nat)} {q r : List Nat} {l o : Nat} (h : Lnk rs (q ++ [l] ++ o :: r)) : (min l o, max l o) ∈ rs := by
  refine h q.length l o ?_ ?_
  · rw [List.append_assoc, List.getElem?_append_right (Nat.le_refl _), Nat.sub_self]; rfl
  · rw [List.append_assoc, List.getElem?_append_right (by omega)]; simp
theorem zero_end {many : Nat} {rs : List (Nat × Nat)} {h : Nat} {w p r : List Nat} (ok : WayOk many rs h w) (e : w = p ++ 0 :: r) : r = [] := by
  obtain ⟨v, hv⟩ := ok.last
  cases r with
  | nil => rfl
  | cons a r =>
    exfalso
    have h1 : w[p.length]? = some 0 := by rw [e, List.getElem?_append_right (Nat.le_refl _), Nat.sub_self]; rfl
    have h2 : w[v.length]? = some 0 := by rw [hv, List.getElem?_append_right (Nat.le_refl _), Nat.sub_self]; rfl
    have h3 := nodup_get ok.nd h1 h2
    have h4 := congrArg List.length (e.symm.trans hv)
    simp only [List.length_append, List.length_cons, List.length_nil] at h4
    omega
def kids (many : Nat) (rs : List (Nat × Nat)) (p : List Nat) (l : Nat) : List (List Nat) := ((nearOf many rs p l).filter fun o => decide (¬o = 0)).map fun o => p ++ [o]
def done1 (many : Nat) (rs : List (Nat × Nat)) (p : List Nat) (l : Nat) : List (List Nat) := ((nearOf many rs p l).filter fun o => decide (o = 0)).map fun _ => p ++ [0]
theorem kids_ok {many : Nat} {rs : List (Nat × Nat)} {h : Nat} {q : List Nat} {l : Nat} (ok : PartOk many rs h (q ++ [l])) : ∀ p ∈ kids many rs (q ++ [l]) l, PartOk many rs h p ∧ p.length = q.length + 2 := fun p hp => by
  unfold kids at hp
  obtain ⟨o, ho, rfl⟩ := List.mem_map.mp hp
  rw [List.mem_filter, decide_eq_true_eq, nearOf_mem] at ho
  refine ⟨⟨?_, ?_, ?_, ?_, ok.lnk.add ho.1.2.2⟩, by simp⟩
  · rw [List.getElem?_append_left (by simp)]; exact ok.hd
  · rw [List.nodup_append]
    refine ⟨ok.nd, by simp, fun a ha b hb z => ?_⟩
    rw [List.mem_singleton] at hb
    subst hb z
    exact ho.1.2.1 ha
  · intro x hx
    rw [List.mem_append, List.mem_singleton] at hx
    rcases hx with hx | rfl
    · exact ok.lt x hx
    · exact ho.1.1
  · intro hx
    rw [List.mem_append, List.mem_singleton] at hx
    rcases hx with hx | hx
    · exact ok.nz hx
    · exact ho.2 hx.symm
theorem done1_ok {many : Nat} {rs : List (Nat × Nat)} {h : Nat} {q : List Nat} {l : Nat} (ok : PartOk many rs h (q ++ [l])) : ∀ p ∈ done1 many rs (q ++ [l]) l, WayOk many rs h p := fun p hp => by
  unfold done1 at hp
  obtain ⟨o, ho, rfl⟩ := List.mem_map.mp hp
  rw [List.mem_filter, decide_eq_true_eq, nearOf_mem] at ho
  obtain ⟨⟨h1, h2, h3⟩, rfl⟩ := ho
  refine ⟨?_, ⟨_, rfl⟩, ?_, ?_, ok.lnk.add h3⟩
  · rw [List.getElem?_append_left (by simp)]; exact ok.hd
  · rw [List.nodup_append]
    refine ⟨ok.nd, by simp, fun a ha b hb z => ?_⟩
    rw [List.mem_singleton] at hb
    subst hb z
    exact h2 ha
  · intro x hx
    rw [List.mem_append, List.mem_singleton] at hx
    rcases hx with hx | rfl
    · exact ok.lt x hx
    · exact h1
theorem cnt_zero {α : Type} {l : List α} {P : α → Bool} (h : ∀ a ∈ l, P a = false) : l.countP P = 0 := List.countP_eq_zero.mpr fun a ha => by rw [h a ha]; simp
theorem cnt_one : ∀ {l : List Nat} (nd : l.Nodup) {a : Nat} (h : a ∈ l) (P : Nat → Bool) (hP : ∀ b ∈ l, P b = decide (b = a)), l.countP P = 1
  | [], _, a, h, _, _ => by cases h
  | x :: l, nd, a, h, P, hP => by
    rw [List.nodup_cons] at nd
    by_cases e : x = a
    · subst e
      rw [List.countP_cons_of_pos (by rw [hP x (List.mem_cons_self ..)]; simp), cnt_zero fun b hb => by
        rw [hP b (List.mem_cons_of_mem _ hb), decide_eq_false_iff_not]
        rintro rfl
        exact nd.1 hb]
    · rw [List.countP_cons_of_neg (by rw [hP x (List.mem_cons_self ..)]; simpa using e)]
      rcases List.mem_cons.mp h with h | h
      · exact absurd h.symm e
      · exact cnt_one nd.2 h P fun b hb => hP b (List.mem_cons_of_mem _ hb)
def pf (w p : List Nat) : Bool := p.isPrefixOf w
theorem pf_iff (w p : List Nat) : pf w p = true ↔ p <+: w := List.isPrefixOf_iff_prefix
theorem step_cnt {many : Nat} {rs : List (Nat × Nat)} {h : Nat} {q : List Nat} {l : Nat} (ok : PartOk many rs h (q ++ [l])) {w : List Nat} (hw : WayOk many rs h w) :
    (done1 many rs (q ++ [l]) l).count w + (kids many rs (q ++ [l]) l).countP (pf w) = if pf w (q ++ [l]) = true then 1 else 0 := by
  by_cases hp : pf w (q ++ [l]) = true
  · rw [if_pos hp]
    obtain ⟨t, ht⟩ := (pf_iff _ _).mp hp
    have hmem : ∀ o r, t = o :: r → o ∈ nearOf many rs (q ++ [l]) l := fun o r e => by
      rw [nearOf_mem]
      subst e
      refine ⟨hw.lt o (by rw [← ht]; simp), fun hm => ?_, lnk_app (by rw [ht]; exact hw.lnk)⟩
      have := hw.nd
      rw [← ht, List.nodup_append] at this
      exact this.2.2 o hm o (by simp) rfl
    cases t with
    | nil =>
      exfalso
      obtain ⟨v, hv⟩ := hw.last
      apply ok.nz
      rw [List.append_nil] at ht
      rw [ht, hv]; simp
    | cons o r =>
      have ho := hmem o r rfl
      by_cases hz : o = 0
      · subst hz
        have hr := zero_end hw ht.symm
        subst hr
        have e1 : (done1 many rs (q ++ [l]) l).count w = 1 := by
          unfold done1
          rw [List.count_eq_countP, List.countP_map]
          refine cnt_one ((nearOf_nd _ _ _ _).filter _) (List.mem_filter.mpr ⟨ho, by simp⟩) _ fun b hb => ?_
          rw [List.mem_filter, decide_eq_true_eq] at hb
          simp only [Function.comp, hb.2, ht, beq_self_eq_true, decide_true]
        have e2 : (kids many rs (q ++ [l]) l).countP (pf w) = 0 := cnt_zero fun p hp => by
          unfold kids at hp
          obtain ⟨o', ho', rfl⟩ := List.mem_map.mp hp
          rw [List.mem_filter, decide_eq_true_eq] at ho'
          rw [Bool.eq_false_iff]
          intro z
          obtain ⟨u, hu⟩ := (pf_iff _ _).mp z
          rw [← ht, List.append_assoc] at hu
          have := List.append_cancel_left hu
          simp only [List.cons_append, List.nil_append, List.cons.injEq] at this
          exact ho'.2 this.1
        rw [e1, e2]
      · have e1 : (done1 many rs (q ++ [l]) l).count w = 0 := by
          rw [List.count_eq_countP]
          refine cnt_zero fun p hp => ?_
          unfold done1 at hp
          obtain ⟨o', ho', rfl⟩ := List.mem_map.mp hp
          rw [beq_eq_false_iff_ne]
          intro z
          rw [← ht] at z
          have := List.append_cancel_left z
          simp only [List.cons.injEq] at this
          exact hz this.1.symm
        have e2 : (kids many rs (q ++ [l]) l).countP (pf w) = 1 := by
          unfold kids
          rw [List.countP_map]
          refine cnt_one ((nearOf_nd _ _ _ _).filter _) (List.mem_filter.mpr ⟨ho, by simpa using hz⟩) _ fun b hb => ?_
          simp only [Function.comp]
          rw [Bool.eq_iff_iff, pf_iff, decide_eq_true_eq]
          constructor
          · rintro ⟨u, hu⟩
            rw [← ht, List.append_assoc] at hu
            have := List.append_cancel_left hu
            simp only [List.cons_append, List.nil_append, List.cons.injEq] at this
            exact this.1
          · rintro rfl
            exact ⟨r, by rw [← ht, List.append_assoc]; rfl⟩
        rw [e1, e2]
  · rw [if_neg hp]
    have hno : ∀ o, ¬(q ++ [l] ++ [o] <+: w) := fun o ⟨u, hu⟩ => hp ((pf_iff _ _).mpr ⟨o :: u, by rw [← hu]; simp⟩)
    have e1 : (done1 many rs (q ++ [l]) l).count w = 0 := by
      rw [List.count_eq_countP]
      refine cnt_zero fun p hp' => ?_
      unfold done1 at hp'
      obtain ⟨o', ho', rfl⟩ := List.mem_map.mp hp'
      rw [beq_eq_false_iff_ne]
      intro z
      exact hno 0 ⟨[], by rw [List.append_nil]; exact z⟩
    have e2 : (kids many rs (q ++ [l]) l).countP (pf w) = 0 := cnt_zero fun p hp' => by
      unfold kids at hp'
      obtain ⟨o', ho', rfl⟩ := List.mem_map.mp hp'
      rw [Bool.eq_false_iff]
      exact fun z => hno o' ((pf_iff _ _).mp z)
    rw [e1, e2]
def wt (p : List Nat) : Nat := 8 ^ (7 - p.length)
def wts (row : List (List Nat)) : Nat := (row.map wt).sum
theorem wts_app (a b : List (List Nat)) : wts (a ++ b) = wts a + wts b := by unfold wts; rw [List.map_append, List.sum_append]
theorem wts_const : ∀ (k : Nat) (ps : List (List Nat)), (∀ p ∈ ps, wt p = k) → wts ps = ps.length * k
  | k, [], _ => by simp [wts]
  | k, p :: ps, h => by
    have ih := wts_const k ps fun q hq => h q (List.mem_cons_of_mem _ hq)
    unfold wts at ih ⊢
    rw [List.map_cons, List.sum_cons, ih, h p (List.mem_cons_self ..), List.length_cons, Nat.add_mul]
    omega
theorem flt_two (P : Nat → Prop) [DecidablePred P] : ∀ l : List Nat, (l.filter fun o => decide (P o)).length + (l.filter fun o => decide (¬P o)).length = l.length
  | [] => rfl
  | x :: l => by
    have ih := flt_two P l
    by_cases h : P x
    · rw [List.filter_cons_of_pos (by simpa using h), List.filter_cons_of_neg (by simpa using h), List.length_cons, List.length_cons]; omega
    · rw [List.filter_cons_of_neg (by simpa using h), List.filter_cons_of_pos (by simpa using h), List.length_cons, List.length_cons]; omega
theorem kids_len {many : Nat} {rs : List (Nat × Nat)} (hm : many ≤ 7) (p : List Nat) (l : Nat) (hp : l ∈ p) (hl : l < many) : (kids many rs p l).length + (done1 many rs p l).length ≤ 6 := by
  have h1 : (kids many rs p l).length + (done1 many rs p l).length = (nearOf many rs p l).length := by
    unfold kids done1
    rw [List.length_map, List.length_map, Nat.add_comm]
    exact flt_two _ _
  have h2 := List.Nodup.length_le_of_subset (l₁ := l :: nearOf many rs p l) (l₂ := List.range many) (List.nodup_cons.mpr ⟨fun h => (nearOf_mem.mp h).2.1 hp, nearOf_nd _ _ _ _⟩) fun a ha => by
    rcases List.mem_cons.mp ha with rfl | ha
    · exact List.mem_range.mpr hl
    · exact List.mem_range.mpr (nearOf_mem.mp ha).1
  simp at h2
  omega
theorem step_wt {many : Nat} {rs : List (Nat × Nat)} {h : Nat} {q : List Nat} {l : Nat} (hm : many ≤ 7) (ok : PartOk many rs h (q ++ [l])) :
    (done1 many rs (q ++ [l]) l).length + wts (kids many rs (q ++ [l]) l) < wt (q ++ [l]) := by
  have h1 := kids_len (rs := rs) hm (q ++ [l]) l (by simp) (ok.lt l (by simp))
  have h2 := ok.few
  simp only [List.length_append, List.length_cons, List.length_nil] at h2
  have e : wts (kids many rs (q ++ [l]) l) = (kids many rs (q ++ [l]) l).length * 8 ^ (7 - (q.length + 2)) := wts_const _ _ fun p hp => by
    unfold wt
    rw [(kids_ok ok p hp).2]
  have e2 : wt (q ++ [l]) = 8 * 8 ^ (7 - (q.length + 2)) := by
    unfold wt
    simp only [List.length_append, List.length_cons, List.length_nil]
    rw [show 7 - (q.length + (0 + 1)) = (7 - (q.length + 2)) + 1 by omega, Nat.pow_succ]
    omega
  rw [e, e2]
  have hpos : 0 < 8 ^ (7 - (q.length + 2)) := Nat.pow_pos (by omega)
  have h3 : (kids many rs (q ++ [l]) l).length * 8 ^ (7 - (q.length + 2)) ≤ 6 * 8 ^ (7 - (q.length + 2)) := Nat.mul_le_mul_right _ (by omega)
  have h4 : (done1 many rs (q ++ [l]) l).length ≤ 1 := by
    unfold done1
    rw [List.length_map]
    have := List.Nodup.length_le_of_subset (l₁ := (nearOf many rs (q ++ [l]) l).filter fun o => decide (o = 0)) (l₂ := [0]) ((nearOf_nd _ _ _ _).filter _) fun a ha => by
      rw [List.mem_filter, decide_eq_true_eq] at ha
      simp [ha.2]
    simpa using this
  omega
end LW
namespace LW
open PySem PySem.Spec PyProof.Rows L2 PF
theorem W_neNil (row : List (List Nat)) (Q : D → Prop) : W (aCmp .NotEq (.list (row.map wD)) (.list [])) Q = Q (.bool (decide (row ≠ []))) := by
  rw [W_neP 2 1 (by omega) (by omega) (pl_lst fun d hd => by obtain ⟨w, _, rfl⟩ := List.mem_map.mp hd; exact wD_pl w 0) (pl_lst fun d hd => by cases hd)]
  congr 2
  exact decide_eq_decide.mpr (by cases row <;> simp)
theorem W_niW (n : Nat) (w : List Nat) (Q : D → Prop) : W (aCmp .NotIn (.int (n : Nat)) (wD w)) Q = Q (.bool (decide (¬n ∈ w))) := by
  unfold wD
  rw [W_niTP 0 0 (by omega) (by omega) (pl_int _ _) fun d hd => nD_pl hd 0]
  congr 2
  exact decide_eq_decide.mpr (by rw [nD_mem])
theorem W_inRL (r : Nat × Nat) (rs : List (Nat × Nat)) (Q : D → Prop) : W (aCmp .In (rD r) (.list (rs.map rD))) Q = Q (.bool (decide (r ∈ rs))) := by
  rw [W_inLP 1 1 (by omega) (by omega) (rD_pl _ 0) fun d hd => rsD_pl hd 0]
  congr 2
  exact decide_eq_decide.mpr rsD_mem
theorem W_inRT (r : Nat × Nat) (rs : List (Nat × Nat)) (Q : D → Prop) : W (aCmp .In (rD r) (rsD rs)) Q = Q (.bool (decide (r ∈ rs))) := by
  unfold rsD
  rw [W_inTP 1 1 (by omega) (by omega) (rD_pl _ 0) fun d hd => rsD_pl hd 0]
  congr 2
  exact decide_eq_decide.mpr rsD_mem
theorem mm_rD (l n : Nat) : PyData.tuple [.int (min (l : Int) n), .int (max (l : Int) n)] = rD (min l n, max l n) := by
  unfold rD
  congr 3
  · congr 1; omega
  · congr 2; omega
theorem w_last (q : List Nat) (l : Nat) : atI (nD (q ++ [l])) (-1) = some (.int (l : Nat)) := by rw [← nD_app]; exact atI_last _ _
theorem W_addW (w : List Nat) (n : Nat) (Q : D → Prop) (hl : w.length < 1000) (h : Q (wD (w ++ [n]))) : W (aAdd (wD w) (.tuple [.int (n : Nat)])) Q := by
  unfold wD at *
  rw [W_addT]
  refine ⟨by rw [nD_len]; show _ ≤ 16777216; simp; omega, ?_⟩
  rw [nD_app]
  exact h
theorem all_ok {many h : Nat} {rs : List (Nat × Nat)} {rd : D} (hm : many ≤ 7) (h1 : 1 ≤ h) (h2 : h < many) (hin : ∀ r Q, W (aCmp .In (rD r) rd) Q = Q (.bool (decide (r ∈ rs)))) :
    W (f_l_all_2 [.int many, rd, .int h]) fun d => ∃ ws : List (List Nat), d = .list (ws.map wD) ∧ ws.Nodup ∧ ws.length ≤ 262144 ∧ ∀ w, w ∈ ws ↔ WayOk many rs h w := by
  refine W_run ?_
  simp only [den_l_all_2, ex_all]
  try simp only [↓ev_all]
  refine W_while (fun m ρ => ∃ (found row : List (List Nat)) (u5 u6 u7 : Option SV), m = wts row ∧ (∀ p ∈ row, PartOk many rs h p) ∧ (∀ w ∈ found, WayOk many rs h w) ∧ found.length + wts row ≤ 262144 ∧ (∀ w, WayOk many rs h w → found.count w + row.countP (pf w) = 1) ∧
    ρ = [some (.val (.int many)), some (.val rd), some (.val (.int h)), some (.val (.list (found.map wD))), some (.own (row.map wD)), u5, u6, u7]) ?step wFuel 262144 _ (by decide) ⟨[], [[h]], none, none, none, ?m0, ?p0, fun w hw => (by cases hw), ?l0, ?c0, rfl⟩
  case m0 => rfl
  case p0 =>
    intro p hp
    rw [List.mem_singleton] at hp
    subst hp
    exact ⟨rfl, by simp, fun x hx => by simp at hx; omega, by simp; omega, fun i a b _ hb => by simp at hb⟩
  case l0 => simp [wts, wt]
  case c0 =>
    intro w hw
    have : pf w [h] = true := by
      rw [pf_iff]
      cases w with
      | nil => have := hw.hd; cases this
      | cons a r =>
        have := hw.hd
        simp only [List.getElem?_cons_zero, Option.some.injEq] at this
        subst this
        exact ⟨r, rfl⟩
    simp [this]
  case step =>
    rintro m ρ ⟨found, row, u5, u6, u7, rfl, k1, k2, k3, k4, rfl⟩
    simp only [↓ev_all, ↓W_neNil]
    refine ⟨fun hne => ?_, fun hne => ?_⟩
    · have hrow : ∃ row' p, row = row' ++ [p] := ⟨_, _, (List.dropLast_concat_getLast hne).symm⟩
      obtain ⟨row', p, rfl⟩ := hrow
      have hp := k1 p (by simp)
      obtain ⟨q, l, rfl⟩ := hp.ne
      have hfew := hp.few
      simp only [List.length_append, List.length_cons, List.length_nil] at hfew
      rw [W_pop 4 (bName 5) _ _ (row'.map wD) (wD (q ++ [l])) (by simp)]
      try simp only [↓ev_all]
      refine ⟨rg_ok (by omega) (by omega) (by omega) (by omega), ?_⟩
      rw [rg_map (x := 0) 0 rfl]
      have e0 : ((many : Int) - ((0 : Nat) : Int)).toNat = many := by omega
      rw [e0]
      have ez : ∀ n : Nat, PyData.int ((0 + n : Nat) : Int) = .int (n : Nat) := fun n => by rw [Nat.zero_add]
      refine W.of (comp_typed_if _ _ (fun n => .int ((n : Nat) : Int)) (fun o => decide (¬o ∈ q ++ [l])) fun n hn => ?_) ?_
      · simp only [wipeE, List.set_cons_succ, List.set_cons_zero, ez]
        simp only [↓ev_all, ↓W_niW]
        exact ⟨by first | rfl | trivial, fun _ => by first | rfl | trivial⟩
      try simp only [↓ev_all]
      refine W.of (comp_typed_if _ _ (fun n => .int ((n : Nat) : Int)) (fun o => decide ((min l o, max l o) ∈ rs)) fun n hn => ?_) ?_
      · simp only [wipeE, List.set_cons_succ, List.set_cons_zero]
        simp only [↓ev_all, ↓eg]
        refine W.of (w_last q l) ?_
        simp only [↓ev_all, ↓eg]
        refine W.of (w_last q l) ?_
        simp only [↓ev_all, ↓eg, mm_rD]
        rw [hin]
        try simp only [↓ev_all]
        exact ⟨by first | rfl | trivial, fun _ => by first | rfl | trivial⟩
      have en : List.filter (fun o => decide ((min l o, max l o) ∈ rs)) (List.filter (fun o => decide (¬o ∈ q ++ [l])) (List.range many)) = nearOf many rs (q ++ [l]) l := rfl
      rw [en]
      try simp only [↓ev_all]
      refine W.of (comp_typed_if _ _ (fun _ => wD (q ++ [l] ++ [0])) (fun o => decide (o = 0)) fun n hn => ?_) ?_
      · simp only [wipeE, List.set_cons_succ, List.set_cons_zero]
        try simp only [↓ev_all]
        refine ⟨decide_eq_decide.mpr (by omega), fun _ => ?_⟩
        exact W_addW (q ++ [l]) 0 _ (by simp; omega) rfl
      have sw := step_wt (rs := rs) hm hp
      have ed : List.map (fun _ => wD (q ++ [l] ++ [0])) ((nearOf many rs (q ++ [l]) l).filter fun o => decide (o = 0)) = (done1 many rs (q ++ [l]) l).map wD := by
        unfold done1; rw [List.map_map]; rfl
      rw [ed]
      rw [wts_app] at k3
      have ew : wts [q ++ [l]] = wt (q ++ [l]) := by simp [wts]
      rw [ew] at k3
      simp only [↓ev_all, ↓W_ext]
      refine ⟨by simp only [List.length_map]; show _ ≤ 16777216; omega, ?_⟩
      refine W.of (comp_typed_if _ _ (fun n => wD (q ++ [l] ++ [n])) (fun o => decide (¬o = 0)) fun n hn => ?_) ?_
      · simp only [wipeE, List.set_cons_succ, List.set_cons_zero]
        try simp only [↓ev_all]
        refine ⟨decide_eq_decide.mpr (by omega), fun _ => ?_⟩
        exact W_addW (q ++ [l]) n _ (by simp; omega) rfl
      have ek : List.map (fun n => wD (q ++ [l] ++ [n])) ((nearOf many rs (q ++ [l]) l).filter fun o => decide (¬o = 0)) = (kids many rs (q ++ [l]) l).map wD := by
        unfold kids; rw [List.map_map]; rfl
      rw [ek]
      try simp only [↓ev_all]
      have hlen : ∀ r : List (List Nat), (∀ p ∈ r, PartOk many rs h p) → r.length ≤ wts r := fun r => by
        induction r with
        | nil => intro _; simp
        | cons a r ih =>
          intro hr
          have := ih fun p hp => hr p (List.mem_cons_of_mem _ hp)
          have e : wts (a :: r) = wt a + wts r := by simp [wts]
          have pos : 0 < wt a := Nat.pow_pos (by omega)
          rw [e, List.length_cons]
          omega
      have hk := fun p hp' => (kids_ok hp p hp').1
      have l1 := hlen row' fun p hp => k1 p (by simp [hp])
      have l2 := hlen (kids many rs (q ++ [l]) l) hk
      refine ⟨by simp only [List.length_map]; show _ ≤ 16777216; omega, ?_⟩
      refine ⟨wts (row' ++ kids many rs (q ++ [l]) l), ?_, found ++ done1 many rs (q ++ [l]) l, row' ++ kids many rs (q ++ [l]) l, _, _, _, rfl, ?_, ?_, ?_, ?_, by rw [List.map_append, List.map_append]⟩
      · rw [wts_app, wts_app, ew]; omega
      · intro p hp'
        rcases List.mem_append.mp hp' with hp' | hp'
        · exact k1 p (by simp [hp'])
        · exact hk p hp'
      · intro w hw
        rcases List.mem_append.mp hw with hw | hw
        · exact k2 w hw
        · exact done1_ok hp w hw
      · rw [wts_app, List.length_append]; omega
      · intro w hw
        have c1 := k4 w hw
        have c2 := step_cnt hp hw
        rw [List.countP_append, List.countP_singleton] at c1
        rw [List.count_append, List.countP_append]
        omega
    · have hr : row = [] := by simpa using hne
      subst hr
      try simp only [↓ev_all]
      have k3' : found.length ≤ 262144 := by omega
      have k4' : ∀ w, WayOk many rs h w → found.count w = 1 := fun w hw => by have := k4 w hw; simpa using this
      refine ⟨found, rfl, List.nodup_iff_count.mpr fun w => ?_, k3', fun w => ⟨k2 w, fun hw => ?_⟩⟩
      · by_cases hw : w ∈ found
        · rw [k4' w (k2 w hw)]; exact Nat.le_refl _
        · rw [List.count_eq_zero_of_not_mem hw]; omega
      · refine List.count_pos_iff.mp ?_
        rw [k4' w hw]; omega
end LW
namespace PF
open PySem PySem.Spec PyProof.Rows L2
def zipA : D → D → Option (List D)
  | .list xs, .list ys => some (zipD xs ys)
  | .tuple xs, .tuple ys => some (zipD xs ys)
  | _, _ => none
theorem W_zip {f g : Den} {ρ : Env} {Q : List D → Prop} : W (dZip f g ρ) Q = W (f ρ) fun x => W (g ρ) fun y => W (zipA x y) Q := by
  unfold dZip zipA
  cases e1 : f ρ with
  | none => simp only [W_none]
  | some x =>
    cases e2 : g ρ with
    | none => simp only [W_none, W_some]
    | some y => cases x <;> cases y <;> simp only [W_none, W_some]
theorem W_zipL (xs ys : List D) (Q : List D → Prop) : W (zipA (.list xs) (.list ys)) Q = Q (zipD xs ys) := W_some _ _
theorem W_zipT (xs ys : List D) (Q : List D → Prop) : W (zipA (.tuple xs) (.tuple ys)) Q = Q (zipD xs ys) := W_some _ _
theorem W_minT (x : D) (xs : List D) (Q : D → Prop) : W (bMin [.tuple (x :: xs)]) Q = (bestOk x xs (PySem.W.minD x xs) = true ∧ Q (PySem.W.minD x xs)) := W_if _ _ _
theorem W_maxT (x : D) (xs : List D) (Q : D → Prop) : W (bMax [.tuple (x :: xs)]) Q = (bestOk x xs (PySem.W.maxD x xs) = true ∧ Q (PySem.W.maxD x xs)) := W_if _ _ _
end PF
namespace LW
open PySem PySem.Spec PyProof.Rows L2 PF
theorem best_I (x y m : Int) : bestOk (.int x) [.int y] (.int m) = true := by
  unfold bestOk
  have h1 : SeqAt.shaped (.list [.int x, .int y]) = true := pl_shaped (n := 1) (pl_lst fun d hd => by
    simp only [List.mem_cons, List.not_mem_nil, or_false] at hd
    rcases hd with rfl | rfl <;> exact pl_int _ _) (by omega)
  rw [h1]
  simp [alikeB, noN, isN, notL, PySem.W.alike]
theorem W_minR (r : Nat × Nat) (Q : D → Prop) : W (bMin [rD r]) Q = Q (.int (min (r.1 : Int) r.2)) := by
  unfold rD
  rw [W_minT]
  have e : PySem.W.minD (.int (r.1 : Nat)) [.int (r.2 : Nat)] = .int (min (r.1 : Int) r.2) := by
    have := PySem.W.minD_ints (r.1 : Int) [(r.2 : Int)]
    simpa using this
  rw [e, best_I]
  simp
theorem W_maxR (r : Nat × Nat) (Q : D → Prop) : W (bMax [rD r]) Q = Q (.int (max (r.1 : Int) r.2)) := by
  unfold rD
  rw [W_maxT]
  have e : PySem.W.maxD (.int (r.1 : Nat)) [.int (r.2 : Nat)] = .int (max (r.1 : Int) r.2) := by
    have := PySem.W.maxD_ints (r.1 : Int) [(r.2 : Int)]
    simpa using this
  rw [e, best_I]
  simp
theorem W_ixT0 (many : Nat) (ss ps : List (Nat × Nat)) (Q : D → Prop) : W (aIx (tD many ss ps) (.int 0)) Q = Q (.int many) := W_at0 _ _ _
theorem W_ixT1 (many : Nat) (ss ps : List (Nat × Nat)) (Q : D → Prop) : W (aIx (tD many ss ps) (.int 1)) Q = Q (rsD ss) := W_at1 _ _ _ _
theorem W_ixT2 (many : Nat) (ss ps : List (Nat × Nat)) (Q : D → Prop) : W (aIx (tD many ss ps) (.int 2)) Q = Q (rsD ps) := W_at2 _ _ _ _ _
theorem W_addR (a b : List (Nat × Nat)) (Q : D → Prop) (hl : a.length + b.length ≤ 1000) (h : Q (rsD (a ++ b))) : W (aAdd (rsD a) (rsD b)) Q := by
  unfold rsD at *
  rw [W_addT]
  refine ⟨by simp only [List.length_map]; show _ ≤ 16777216; omega, ?_⟩
  rw [← List.map_append]
  exact h
def eT := And.intro @W_ixT0 <| And.intro @W_ixT1 <| And.intro @W_ixT2 <| And.intro @W_inRT <| And.intro @W_minR <| @W_maxR
def rk (ss : List (Nat × Nat)) (a b : Nat) : Nat := if (a, b) ∈ ss then 0 else if (b, a) ∈ ss then 2 else 1
theorem rD_mk (a b : Nat) : PyData.tuple [.int (a : Nat), .int (b : Nat)] = rD (a, b) := rfl
theorem rank_ok (many : Nat) (ss ps : List (Nat × Nat)) (a b : Nat) : f_rank_of [tD many ss ps, .int (a : Nat), .int (b : Nat)] = some (.int (rk ss a b : Nat)) := by
  refine W_eq (W_run ?_)
  simp only [den_rank_of, ex_all]
  try simp only [↓ev_all, ↓eT]
  simp only [rD_mk]
  try simp only [↓ev_all, ↓eT]
  unfold rk
  refine ⟨fun h => ?_, fun h => ⟨fun h2 => ?_, fun h2 => ?_⟩⟩
  · rw [if_pos h]; rfl
  · rw [if_neg h, if_pos h2]; rfl
  · rw [if_neg h, if_neg h2]; rfl
theorem lsort_ok (many : Nat) (ss ps : List (Nat × Nat)) (a b : Nat) : f_l_sort [tD many ss ps, .int (a : Nat), .int (b : Nat)] = some (.int (rk ss a b : Nat)) := by
  refine W_eq (W_run ?_)
  simp only [den_l_sort, ex_all]
  try simp only [↓ev_all, ↓eT]
  simp only [rD_mk]
  try simp only [↓ev_all, ↓eT]
  unfold rk
  refine ⟨fun h => ?_, fun h => ⟨fun h2 => ?_, fun h2 => ?_⟩⟩
  · rw [if_pos h]; rfl
  · rw [if_neg h, if_pos h2]; rfl
  · rw [if_neg h, if_neg h2]; rfl
def rks (ss : List (Nat × Nat)) (w : List Nat) : List Nat := (w.zip w.tail).map fun p => rk ss p.1 p.2
def chain2 (s : List Nat) : Bool := (s.zip s.tail).all fun p => decide (p.1 = 2) || decide (p.2 = 0)
def fitB (ss : List (Nat × Nat)) (w : List Nat) : Bool := chain2 (rks ss w)
def upB : Bool → List Nat → Bool
  | _, [] => true
  | c, s :: r => (c || decide (s = 0)) && upB (c && decide (s = 2)) r
theorem chain2_cons (a b : Nat) (r : List Nat) : chain2 (a :: b :: r) = ((decide (a = 2) || decide (b = 0)) && chain2 (b :: r)) := by simp [chain2]
theorem upB_chain : ∀ (r : List Nat) (a : Nat), upB (decide (a = 2)) r = chain2 (a :: r)
  | [], a => by simp [upB, chain2]
  | b :: r, a => by
    rw [chain2_cons, upB, ← upB_chain r b]
    by_cases ha : a = 2
    · simp [ha]
    · by_cases hb : b = 0
      · simp [ha, hb]
      · simp [ha, hb]
theorem upB_fit (s : List Nat) : upB true s = chain2 s := by
  cases s with
  | nil => rfl
  | cons a r => rw [upB, ← upB_chain]; simp
theorem nD_zip (v w : List Nat) : zipD (nD v) (nD w) = (v.zip w).map rD := by
  rw [zipD_eq]
  unfold nD
  rw [List.zip_map, List.map_map]
  rfl
theorem wD_tail (w : List Nat) : PF.cutD (nD w) (some 1) none = nD w.tail := by
  have := wD_drop w 1
  rw [List.drop_one] at this
  exact this
theorem wD_def (w : List Nat) : wD w = .tuple (nD w) := rfl
theorem fit_ok (many : Nat) (ss ps : List (Nat × Nat)) (w : List Nat) : f_is_fit [tD many ss ps, wD w] = some (.bool (fitB ss w)) := by
  refine W_eq (W_run ?_)
  simp only [den_is_fit, ex_all]
  try simp only [↓ev_all, ↓W_zip, ↓eg]
  rw [wD_tail]
  try unfold wD
  simp only [↓W_zipL, ↓W_zipT]
  rw [nD_zip]
  try simp only [← wD_def]
  refine W.of (comp_typed _ rD (fun p => .int (rk ss p.1 p.2 : Nat)) fun p hp => ?_) ?_
  · simp only [wipeE, List.set_cons_succ, List.set_cons_zero]
    unfold rD
    simp only [↓ev_all]
    refine W.of (rank_ok many ss ps p.1 p.2) rfl
  have e : List.map (fun p : Nat × Nat => PyData.int (rk ss p.1 p.2 : Nat)) (w.zip w.tail) = nD (rks ss w) := by unfold nD rks; rw [List.map_map]; rfl
  rw [e]
  try simp only [↓ev_all, ↓W_zip, ↓eg]
  rw [wD_tail]
  try simp only [↓W_zipL, ↓W_zipT]
  rw [nD_zip]
  refine W.of (comp_typed _ rD (fun p => .bool (decide (p.1 = 2) || decide (p.2 = 0))) fun p hp => ?_) ?_
  · simp only [wipeE, List.set_cons_succ, List.set_cons_zero]
    unfold rD
    simp only [↓ev_all]
    refine ⟨fun h => ?_, fun h => ?_⟩
    · have : p.1 = 2 := by omega
      simp [this]
    · have : ¬p.1 = 2 := by omega
      simp only [this, decide_false, Bool.false_or, PyData.bool.injEq]
      exact decide_eq_decide.mpr (by omega)
  have e2 : List.map (fun p : Nat × Nat => PyData.bool (decide (p.1 = 2) || decide (p.2 = 0))) ((rks ss w).zip (rks ss w).tail) = (((rks ss w).zip (rks ss w).tail).map fun p => decide (p.1 = 2) || decide (p.2 = 0)).map PyData.bool := by rw [List.map_map]; rfl
  rw [e2]
  simp only [↓ev_all, ↓W_all]
  unfold fitB chain2
  rw [List.all_map]
  rfl
theorem lfit_ok (many : Nat) (ss ps : List (Nat × Nat)) (w : List Nat) : f_l_fit [tD many ss ps, wD w] = some (.bool (fitB ss w)) := by
  refine W_eq (W_run ?_)
  simp only [den_l_fit, ex_all]
  try simp only [↓ev_all, ↓W_zip, ↓eg]
  rw [wD_tail]
  try unfold wD
  simp only [↓W_zipL, ↓W_zipT]
  rw [nD_zip]
  try simp only [← wD_def]
  refine W_forL (fun r ρ => ∃ (ps' : List (Nat × Nat)) (c : Bool) (x3 x4 x5 : Option SV), r = ps'.map rD ∧ upB c (ps'.map fun p => rk ss p.1 p.2) = fitB ss w ∧ ρ = [some (.val (tD many ss ps)), some (.val (wD w)), some (.val (.bool c)), x3, x4, x5]) ?zEnd ?zStep _ _ ⟨w.zip w.tail, true, _, _, _, rfl, ?z0, rfl⟩
  case z0 => exact upB_fit _
  case zEnd =>
    rintro ρ ⟨ps', c, x3, x4, x5, h1, h2, rfl⟩
    cases ps' with
    | cons a b => cases h1
    | nil =>
      simp only [↓ev_all]
      rw [← h2]
      rfl
  case zStep =>
    rintro x r ρ ⟨ps', c, x3, x4, x5, h1, h2, rfl⟩
    cases ps' with
    | nil => cases h1
    | cons p ps' =>
      rw [List.map_cons] at h1
      injection h1 with e1 e2
      subst e1 e2
      rw [List.map_cons, upB] at h2
      unfold rD
      simp only [↓ev_all]
      refine W.of (lsort_ok many ss ps p.1 p.2) ?_
      simp only [↓ev_all]
      have fin : (c || decide (rk ss p.1 p.2 = 0)) = true → upB (c && decide (rk ss p.1 p.2 = 2)) (ps'.map fun p => rk ss p.1 p.2) = fitB ss w := fun h => by rw [h, Bool.true_and] at h2; exact h2
      cases c with
      | true =>
        simp only [Bool.not_true, ↓ev_all]
        have := fin rfl
        rw [Bool.true_and] at this
        have e : decide (((rk ss p.1 p.2 : Nat) : Int) = 2) = decide (rk ss p.1 p.2 = 2) := decide_eq_decide.mpr (by omega)
        exact ⟨ps', decide (rk ss p.1 p.2 = 2), _, _, _, rfl, this, by rw [← e]⟩
      | false =>
        simp only [Bool.not_false, ↓ev_all]
        refine ⟨fun h => ?_, fun h => ?_⟩
        · have h' : ¬rk ss p.1 p.2 = 0 := fun z => h (by omega)
          simp only [h', decide_false, Bool.or_self, Bool.false_and] at h2
          rw [← h2]
          rfl
        · have h' : rk ss p.1 p.2 = 0 := by
            by_cases z : rk ss p.1 p.2 = 0
            · exact z
            · exact absurd (fun y => z (by omega)) h
          exact ⟨ps', false, _, _, _, rfl, by have := fin (by simp [h']); simpa using this, rfl⟩
end LW
namespace LW
open PySem PySem.Spec PyProof.Rows L2 PF
def wlt : List Nat → List Nat → Bool := lxLt natLt
theorem ordW : Ordr wlt := ordNat.lx
theorem encW : Enc wD wlt := encNat.tup
def ext (sts : List (List (List Nat))) (row : List (List Nat)) : List (List (List Nat)) := sts.flatMap fun s => row.map fun w => s ++ [w]
end LW
namespace LW
open PySem PySem.Spec PyProof.Rows L2 PF
structure SufOk (many : Nat) (rs : List (Nat × Nat)) (w : List Nat) : Prop where
  last : ∃ v, w = v ++ [0]
  nd : w.Nodup
  lt : ∀ x ∈ w, x < many
  lnk : Lnk rs w
theorem lnk_cons {rs : List (Nat × Nat)} {h x : Nat} {w : List Nat} : Lnk rs (h :: x :: w) ↔ (min h x, max h x) ∈ rs ∧ Lnk rs (x :: w) := by
  constructor
  · intro l
    exact ⟨l 0 h x rfl rfl, fun i a b ha hb => l (i + 1) a b ha hb⟩
  · rintro ⟨h1, h2⟩ i a b ha hb
    cases i with
    | zero =>
      simp at ha hb
      subst ha hb
      exact h1
    | succ i => exact h2 i a b (by simpa using ha) (by simpa using hb)
theorem nodup_len {many : Nat} {w : List Nat} (nd : w.Nodup) (lt : ∀ x ∈ w, x < many) : w.length ≤ many := by
  have := List.Nodup.length_le_of_subset nd fun x hx => List.mem_range.mpr (lt x hx)
  rwa [List.length_range] at this
theorem SufOk.tl {many : Nat} {rs : List (Nat × Nat)} {h : Nat} {w : List Nat} (s : SufOk many rs (h :: w)) (hw : w ≠ []) : SufOk many rs w := by
  obtain ⟨v, hv⟩ := s.last
  refine ⟨?_, (List.nodup_cons.mp s.nd).2, fun x hx => s.lt x (List.mem_cons_of_mem _ hx), fun i a b ha hb => s.lnk (i + 1) a b (by simpa using ha) (by simpa using hb)⟩
  cases v with
  | nil =>
    rw [List.nil_append] at hv
    injection hv with _ hv
    exact absurd hv hw
  | cons a v =>
    rw [List.cons_append] at hv
    injection hv with _ hv
    exact ⟨v, hv⟩
theorem SufOk.cut {many : Nat} {rs : List (Nat × Nat)} : ∀ {w : List Nat} (n : Nat), SufOk many rs w → n < w.length → ∃ v, SufOk many rs v ∧ v.length = n + 1
  | [], n, _, h => by simp at h
  | a :: w, n, s, h => by
    by_cases e : (a :: w).length = n + 1
    · exact ⟨_, s, e⟩
    · have hw : w ≠ [] := fun z => by
        subst z
        simp at h e
        omega
      exact SufOk.cut n (s.tl hw) (by simp at h e; omega)
def nxt (many : Nat) (rs : List (Nat × Nat)) (row : List (List Nat)) : List (List Nat) := row.flatMap fun w => ((List.range many).filter fun h => decide (¬h ∈ w) && decide ((min h (w.headD 0), max h (w.headD 0)) ∈ rs)).map fun h => h :: w
theorem nxt_mem {many : Nat} {rs : List (Nat × Nat)} {row : List (List Nat)} {x : List Nat} : x ∈ nxt many rs row ↔ ∃ h w, x = h :: w ∧ w ∈ row ∧ h < many ∧ h ∉ w ∧ (min h (w.headD 0), max h (w.headD 0)) ∈ rs := by
  unfold nxt
  simp only [List.mem_flatMap, List.mem_map, List.mem_filter, List.mem_range, Bool.and_eq_true, decide_eq_true_eq]
  constructor
  · rintro ⟨w, hw, h, ⟨h1, h2, h3⟩, rfl⟩
    exact ⟨h, w, rfl, hw, h1, h2, h3⟩
  · rintro ⟨h, w, rfl, hw, h1, h2, h3⟩
    exact ⟨w, hw, h, ⟨h1, h2, h3⟩, rfl⟩
theorem nxt_nd {many : Nat} {rs : List (Nat × Nat)} {row : List (List Nat)} (nd : row.Nodup) : (nxt many rs row).Nodup := by
  unfold nxt List.Nodup
  rw [List.pairwise_flatMap]
  refine ⟨fun w _ => ?_, nd.imp fun {v w} hvw x hx y hy e => ?_⟩
  · rw [List.pairwise_map]
    exact (List.nodup_range.filter _).imp fun hab e => hab (List.cons.inj e).1
  · obtain ⟨a, _, rfl⟩ := List.mem_map.mp hx
    obtain ⟨b, _, rfl⟩ := List.mem_map.mp hy
    exact hvw (List.cons.inj e).2
theorem nxt_len {many : Nat} {rs : List (Nat × Nat)} (hm : many ≤ 7) : ∀ row : List (List Nat), (nxt many rs row).length ≤ row.length * 7
  | [] => by simp [nxt]
  | w :: row => by
    have ih := nxt_len (rs := rs) hm row
    have e : nxt many rs (w :: row) = (((List.range many).filter fun h => decide (¬h ∈ w) && decide ((min h (w.headD 0), max h (w.headD 0)) ∈ rs)).map fun h => h :: w) ++ nxt many rs row := by
      unfold nxt
      rw [List.flatMap_cons]
    rw [e, List.length_append, List.length_map, List.length_cons]
    have := List.length_filter_le (fun h => decide (¬h ∈ w) && decide ((min h (w.headD 0), max h (w.headD 0)) ∈ rs)) (List.range many)
    rw [List.length_range] at this
    omega
theorem nxt_ok {many n : Nat} {rs : List (Nat × Nat)} {row : List (List Nat)} (h : ∀ w, w ∈ row ↔ SufOk many rs w ∧ w.length = n + 1) (x : List Nat) : x ∈ nxt many rs row ↔ SufOk many rs x ∧ x.length = n + 2 := by
  rw [nxt_mem]
  constructor
  · rintro ⟨a, w, rfl, hw, h1, h2, h3⟩
    obtain ⟨s, hl⟩ := (h w).mp hw
    obtain ⟨v, hv⟩ := s.last
    refine ⟨⟨⟨a :: v, by rw [hv]; rfl⟩, List.nodup_cons.mpr ⟨h2, s.nd⟩, fun x hx => (List.mem_cons.mp hx).elim (fun e => e ▸ h1) (s.lt x), ?_⟩, by simp [hl]⟩
    cases w with
    | nil => simp at hl
    | cons b w => exact lnk_cons.mpr ⟨h3, s.lnk⟩
  · rintro ⟨s, hl⟩
    cases x with
    | nil => simp at hl
    | cons a w =>
      have hw : w ≠ [] := fun z => by subst z; simp at hl
      refine ⟨a, w, rfl, (h w).mpr ⟨s.tl hw, by simpa using hl⟩, s.lt a (List.mem_cons_self ..), (List.nodup_cons.mp s.nd).1, ?_⟩
      cases w with
      | nil => exact absurd rfl hw
      | cons b w => exact (lnk_cons.mp s.lnk).1
theorem joinA_ok {rs : List (Nat × Nat)} {rd : D} (hin : ∀ r Q, W (aCmp .In (rD r) rd) Q = Q (.bool (decide (r ∈ rs)))) (a b : Nat) : f_joined [rd, .int (a : Nat), .int (b : Nat)] = some (.bool (decide ((min a b, max a b) ∈ rs))) := by
  refine W_eq (W_run ?_)
  simp only [den_joined, ex_all]
  try simp only [↓ev_all, mm_rD]
  rw [hin]
  all_goals (try simp only [↓ev_all])
  all_goals (try rfl)
theorem W_consW (n : Nat) (w : List Nat) (Q : D → Prop) (hl : w.length < 1000) (h : Q (wD (n :: w))) : W (aAdd (.tuple [.int (n : Nat)]) (wD w)) Q := by
  unfold wD
  rw [W_addT]
  refine ⟨by simp [nD]; show _ ≤ 16777216; omega, h⟩
theorem pow7h {n : Nat} (h : n ≤ 7) : 7 ^ n ≤ 823543 := Nat.le_trans (Nat.pow_le_pow_right (by omega) h) (by decide)
theorem hall_ok {many : Nat} {rs : List (Nat × Nat)} {rd : D} (h2 : 2 ≤ many) (hm : many ≤ 7) (hin : ∀ r Q, W (aCmp .In (rD r) rd) Q = Q (.bool (decide (r ∈ rs)))) :
    W (f_ways_to_hall [.int many, rd]) fun d => ∃ ws : List (List Nat), d = .list (ws.map wD) ∧ ws.Nodup ∧ ws.length ≤ 6000000 ∧ ∀ w, w ∈ ws ↔ SufOk many rs w ∧ 2 ≤ w.length := by
  refine W_run ?_
  simp only [den_ways_to_hall, ex_all]
  try simp only [↓ev_all]
  refine W_while (fun m ρ => ∃ (n : Nat) (found row : List (List Nat)) (u4 u5 : Option SV), m = 8 - n ∧ n ≤ 7 ∧ row.length ≤ 7 ^ n ∧ found.length ≤ n * 7 ^ n ∧ row.Nodup ∧ (∀ w, w ∈ row ↔ SufOk many rs w ∧ w.length = n + 1) ∧ found.Nodup ∧ (∀ w, w ∈ found ↔ SufOk many rs w ∧ 2 ≤ w.length ∧ w.length ≤ n + 1) ∧
    ρ = [some (.val (.int many)), some (.val rd), some (.val (.list (found.map wD))), some (.val (.list (row.map wD))), u4, u5]) ?step wFuel 8 _ (by decide) ⟨0, [], [[0]], none, none, rfl, by omega, by simp, by simp, by simp, ?r0, by simp, ?f0, rfl⟩
  case r0 =>
    intro w
    rw [List.mem_singleton]
    constructor
    · rintro rfl
      exact ⟨⟨⟨[], rfl⟩, by simp, fun x hx => by simp at hx; omega, fun i a b _ hb => by simp at hb⟩, rfl⟩
    · rintro ⟨⟨⟨v, rfl⟩, _, _, _⟩, hl⟩
      simp at hl
      subst hl
      rfl
  case f0 =>
    intro w
    constructor
    · intro h
      cases h
    · rintro ⟨_, h1, h2⟩
      omega
  case step =>
    rintro m ρ ⟨n, found, row, u4, u5, rfl, hn, l1, l2, n1, m1, n2, m2, rfl⟩
    simp only [↓ev_all, ↓W_neNil]
    refine ⟨fun hne => ?_, fun hne => ?_⟩
    · obtain ⟨w0, hw0⟩ := List.exists_mem_of_ne_nil _ hne
      obtain ⟨s0, e0⟩ := (m1 w0).mp hw0
      have hn6 : n + 1 ≤ many := e0 ▸ nodup_len s0.nd s0.lt
      have shortW : ∀ w ∈ row, w.length < 1000 := fun w hw => by rw [((m1 w).mp hw).2]; omega
      have p7 := pow7h (n := n) (by omega)
      have p8 := pow7h (n := n + 1) (by omega)
      have lx := nxt_len (rs := rs) hm row
      have e8 : 7 ^ (n + 1) = 7 ^ n * 7 := Nat.pow_succ ..
      have lx2 : (nxt many rs row).length ≤ 7 ^ (n + 1) := by omega
      simp only [↓W_comp2, ↓ev_all]
      refine W.of (comp2_typed row wD (fun w => (((List.range many).filter fun h => decide (¬h ∈ w) && decide ((min h (w.headD 0), max h (w.headD 0)) ∈ rs)).map fun h => h :: w).map wD) fun w hw => ?_) ?_
      · simp only [wipeE, List.set_cons_succ, List.set_cons_zero]
        try simp only [↓ev_all, noOwn, List.map_cons, List.map_nil, ↓eg, if_true]
        try simp only [unOwn, List.set_cons_succ, List.set_cons_zero]
        try simp only [↓ev_all]
        refine ⟨rg_ok (by omega) (by omega) (by omega) (by omega), ?_⟩
        rw [rg_map (x := 0) 0 rfl]
        have ez0 : ((many : Int) - ((0 : Nat) : Int)).toNat = many := by omega
        rw [ez0]
        have ez : ∀ n : Nat, PyData.int ((0 + n : Nat) : Int) = .int (n : Nat) := fun n => by rw [Nat.zero_add]
        have hl := ((m1 w).mp hw).2
        rw [List.map_map]
        refine comp_typed_if _ _ (fun h => wD (h :: w)) (fun h => decide (¬h ∈ w) && decide ((min h (w.headD 0), max h (w.headD 0)) ∈ rs)) fun h hh => ?_
        simp only [wipeE, List.set_cons_succ, List.set_cons_zero, ez]
        cases w with
        | nil => simp at hl
        | cons b w =>
          have hat : atI (nD (b :: w)) 0 = some (.int (b : Nat)) := at_nat (j := 0) rfl rfl
          simp only [↓ev_all, ↓W_niW, ↓eg]
          refine ⟨fun hni => ?_, fun hni => ?_⟩
          · refine W.of hat ?_
            simp only [↓ev_all, joinA_ok hin]
            refine ⟨?_, fun _ => ?_⟩
            · rw [decide_eq_true hni, Bool.true_and]
              rfl
            · exact W_consW h (b :: w) _ (shortW _ hw) rfl
          · rw [decide_eq_false hni, Bool.false_and]
            exact ⟨rfl, fun z => by cases z⟩
      · have em : (row.flatMap fun w => (((List.range many).filter fun h => decide (¬h ∈ w) && decide ((min h (w.headD 0), max h (w.headD 0)) ∈ rs)).map fun h => h :: w).map wD) = (nxt many rs row).map wD := by
          unfold nxt
          rw [List.map_flatMap]
        rw [em]
        try simp only [↓ev_all]
        refine ⟨by simp only [List.length_map]; show _ ≤ 16777216; omega, ?_⟩
        try simp only [↓ev_all]
        rw [W_srtL, encW.srt]
        refine ⟨encW.sortOk (n := 1) (fun a => wD_pl a 0) (by omega) _ (.inl fun a ha => ?_) (by show _ ≤ 16777216; omega), ?_⟩
        · obtain ⟨h, w, rfl, _⟩ := nxt_mem.mp ha
          rfl
        · have hs := srt_perm (lt := wlt) (nxt many rs row)
          have hsl := hs.length_eq
          try simp only [↓ev_all]
          have q7 : n * 7 ^ n ≤ 6 * 823543 := Nat.mul_le_mul (by omega) p7
          have q8 : n * 7 ^ n ≤ n * 7 ^ (n + 1) := Nat.mul_le_mul_left _ (by omega)
          refine ⟨by simp only [List.length_map]; show _ ≤ 16777216; omega, ?_⟩
          refine ⟨8 - (n + 1), by omega, n + 1, found ++ srt wlt (nxt many rs row), srt wlt (nxt many rs row), _, _, rfl, by omega, by omega, ?_, hs.nodup_iff.mpr (nxt_nd n1), fun w => ?_, ?_, fun w => ?_, by rw [List.map_append]⟩
          · rw [List.length_append, hsl, Nat.succ_mul]
            omega
          · rw [hs.mem_iff]
            exact nxt_ok m1 w
          · refine List.nodup_append.mpr ⟨n2, hs.nodup_iff.mpr (nxt_nd n1), fun a ha b hb e => ?_⟩
            subst e
            have h3 := ((m2 a).mp ha).2.2
            have h4 := ((nxt_ok m1 a).mp (hs.mem_iff.mp hb)).2
            omega
          · rw [List.mem_append, m2, hs.mem_iff, nxt_ok m1]
            constructor
            · rintro (⟨s, a1, a2⟩ | ⟨s, a1⟩)
              · exact ⟨s, a1, by omega⟩
              · exact ⟨s, by omega, by omega⟩
            · rintro ⟨s, a1, a2⟩
              by_cases e : w.length ≤ n + 1
              · exact .inl ⟨s, a1, e⟩
              · exact .inr ⟨s, by omega⟩
    · have hr : row = [] := by simpa using hne
      subst hr
      try simp only [↓ev_all]
      have p7 := pow7h hn
      have q7 : n * 7 ^ n ≤ 7 * 823543 := Nat.mul_le_mul hn p7
      refine ⟨found, rfl, n2, by omega, fun w => ⟨fun h => ⟨((m2 w).mp h).1, ((m2 w).mp h).2.1⟩, fun ⟨s, h⟩ => (m2 w).mpr ⟨s, h, ?_⟩⟩⟩
      by_cases e : w.length ≤ n + 1
      · exact e
      · obtain ⟨v, sv, lv⟩ := s.cut n (by omega)
        exact absurd ((m1 v).mpr ⟨sv, lv⟩) (by simp)
end LW
namespace LW
open PySem PySem.Spec PyProof.Rows L2 PF
def prLt {α β : Type} [DecidableEq α] (la : α → α → Bool) (lb : β → β → Bool) (x y : α × β) : Bool := if x.1 = y.1 then lb x.2 y.2 else la x.1 y.1
theorem Ordr.pr {α β : Type} [DecidableEq α] {la : α → α → Bool} {lb : β → β → Bool} (oa : Ordr la) (ob : Ordr lb) : Ordr (prLt la lb) where
  irr := fun a => by unfold prLt; rw [if_pos rfl]; exact ob.irr _
  tr := fun a b c h1 h2 => by
    unfold prLt at *
    by_cases e1 : a.1 = b.1
    · rw [if_pos e1] at h1
      by_cases e2 : b.1 = c.1
      · rw [if_pos e2] at h2
        rw [if_pos (e1.trans e2)]
        exact ob.tr _ _ _ h1 h2
      · rw [if_neg e2] at h2
        rw [e1, if_neg e2]
        exact h2
    · rw [if_neg e1] at h1
      by_cases e2 : b.1 = c.1
      · rw [if_neg (e2 ▸ e1), ← e2]
        exact h1
      · rw [if_neg e2] at h2
        have h3 := oa.tr _ _ _ h1 h2
        by_cases e3 : a.1 = c.1
        · rw [e3, oa.irr] at h3
          cases h3
        · rw [if_neg e3]
          exact h3
  tot := fun a b h1 h2 => by
    unfold prLt at *
    by_cases e : a.1 = b.1
    · rw [if_pos e] at h1
      rw [if_pos e.symm] at h2
      exact Prod.ext e (ob.tot _ _ h1 h2)
    · rw [if_neg e] at h1
      rw [if_neg fun z => e z.symm] at h2
      exact absurd (oa.tot _ _ h1 h2) e
theorem lex_one {α : Type} [DecidableEq α] {lt : α → α → Bool} {to : α → D} (E : Enc to lt) (a b : α) (xs ys : List D) :
    PyProof.Rows.lexLt PyProof.Rows.itemOrd (PySem.W.keyToksAll (to a :: xs)) (PySem.W.keyToksAll (to b :: ys)) = if a = b then PyProof.Rows.lexLt PyProof.Rows.itemOrd (PySem.W.keyToksAll xs) (PySem.W.keyToksAll ys) else lt a b := by
  by_cases e : a = b
  · rw [if_pos e, PySem.W.dataLt_all_yes (E.alike a b) (by rw [E.eqv]; exact decide_eq_true e)]
  · rw [if_neg e, PySem.W.dataLt_all_no (E.alike a b) (by rw [E.eqv]; exact decide_eq_false e)]
    exact E.lt_eq a b
theorem lex_nil : PyProof.Rows.lexLt PyProof.Rows.itemOrd (PySem.W.keyToksAll []) (PySem.W.keyToksAll []) = false := rfl
abbrev T3 := Nat × Nat × List Nat
def t3D (t : T3) : D := .tuple [.int (t.1 : Nat), .int (t.2.1 : Nat), wD t.2.2]
def lt3 : T3 → T3 → Bool := prLt natLt (prLt natLt wlt)
theorem ord3 : Ordr lt3 := Ordr.pr ordNat (Ordr.pr ordNat ordW)
theorem enc3 : Enc t3D lt3 where
  alike := fun a b => by
    unfold t3D
    simp only [PySem.W.alike, PySem.W.alikeAll, encW.alike]
    rfl
  eqv := fun a b => by
    obtain ⟨a1, a2, a3⟩ := a
    obtain ⟨b1, b2, b3⟩ := b
    show PyData.eqv (.tuple [.int (a1 : Nat), .int (a2 : Nat), wD a3]) (.tuple [.int (b1 : Nat), .int (b2 : Nat), wD b3]) = _
    have e1 : PyData.eqv (.int (a1 : Nat)) (.int (b1 : Nat)) = decide (a1 = b1) := encNat.eqv a1 b1
    have e2 : PyData.eqv (.int (a2 : Nat)) (.int (b2 : Nat)) = decide (a2 = b2) := encNat.eqv a2 b2
    simp only [PyData.eqv, PyData.eqvAll, encW.eqv] at e1 e2 ⊢
    rw [e1, e2, Bool.and_true, ← Bool.decide_and, ← Bool.decide_and]
    exact decide_eq_decide.mpr (by rw [Prod.mk.injEq, Prod.mk.injEq])
  lt_eq := fun a b => by
    obtain ⟨a1, a2, a3⟩ := a
    obtain ⟨b1, b2, b3⟩ := b
    show PyProof.Rows.lexLt PyProof.Rows.itemOrd (PySem.W.keyToksAll [.int (a1 : Nat), .int (a2 : Nat), wD a3]) (PySem.W.keyToksAll [.int (b1 : Nat), .int (b2 : Nat), wD b3]) = _
    rw [lex_one encNat, lex_one encNat, lex_one encW, lex_nil]
    unfold lt3 prLt
    by_cases h1 : a1 = b1
    · rw [if_pos h1, if_pos h1]
      by_cases h2 : a2 = b2
      · rw [if_pos h2, if_pos h2]
        by_cases h3 : a3 = b3
        · rw [if_pos h3, h3]
          exact (ordW.irr b3).symm
        · rw [if_neg h3]
      · rw [if_neg h2, if_neg h2]
    · rw [if_neg h1, if_neg h1]
theorem sortBy_t {α β : Type} [DecidableEq β] {tb : β → D} {lt : β → β → Bool} (E : Enc tb lt) (ta : α → D) (g : α → β) (as : List α) : sortBy (as.map ta) (as.map fun a => tb (g a)) = (srt (fun a b => lt (g a) (g b)) as).map ta := by
  have e : (as.map ta).zip (as.map fun a => tb (g a)) = as.map fun a => (ta a, tb (g a)) := by
    rw [List.zip_map']
  unfold sortBy
  rw [e]
  have m := List.map_mergeSort (l := as) (r := fun a b => !lt (g b) (g a)) (s := PySem.W.dataLe false fun b : D × D => b.2) (f := fun a => (ta a, tb (g a))) fun a _ b _ => by
    rw [← E.lt_eq]
    rfl
  rw [← m, List.map_map]
  rfl
theorem W_sortKey {i : Nat} {f fb : Den} {ρ : PF.Env} {Q : D → Prop} : W (dSortKey i f fb ρ) Q = W (f ρ) fun d => Lv d fun ds => W (keysL fb ρ i ds) fun kz => sortOk kz = true ∧ Q (.list (sortBy ds kz)) := by
  unfold dSortKey
  rw [W_bind]
  congr 1
  funext d
  cases d with
  | list ds =>
    rw [Lv_l, W_bind]
    simp only [W_if]
  | _ =>
    refine propext ⟨fun h => ?_, fun h => ?_⟩
    · rw [W_none] at h
      exact h.elim
    · obtain ⟨_, z, _⟩ := h
      cases z
theorem keysL_t {α : Type} {fb : Den} {ρ : PF.Env} {i : Nat} (ta tk : α → D) : ∀ (as : List α), (∀ a ∈ as, W (fb (ρ.set i (some (.val (ta a))))) fun d => d = tk a) → keysL fb ρ i (as.map ta) = some (as.map tk)
  | [], _ => rfl
  | a :: as, h => by
    obtain ⟨d, h1, h2⟩ := h a (List.mem_cons_self ..)
    subst h2
    rw [List.map_cons]
    unfold keysL
    rw [h1, Option.bind_some, keysL_t ta tk as fun b hb => h b (List.mem_cons_of_mem _ hb)]
    rfl
def key3 (ss : List (Nat × Nat)) (w : List Nat) : T3 := (rk ss (w.getD 0 0) (w.getD 1 0), w.length, w)
def kLt (ss : List (Nat × Nat)) (v w : List Nat) : Bool := lt3 (key3 ss v) (key3 ss w)
theorem ordK (ss : List (Nat × Nat)) : Ordr (kLt ss) := ord3.comap (key3 ss) fun a b h => by
  unfold key3 at h
  injection h with _ h
  injection h
def ofH (k : Nat) (w : List Nat) : Bool := decide (w.getD 0 0 = k)
theorem head_of {many h : Nat} {rs : List (Nat × Nat)} {w : List Nat} (h1 : 1 ≤ h) : WayOk many rs h w ↔ (SufOk many rs w ∧ 2 ≤ w.length) ∧ ofH h w = true := by
  unfold ofH
  rw [decide_eq_true_eq]
  constructor
  · rintro ⟨a1, a2, a3, a4, a5⟩
    refine ⟨⟨⟨a2, a3, a4, a5⟩, ?_⟩, by rw [List.getD_eq_getElem?_getD, a1]; rfl⟩
    obtain ⟨v, rfl⟩ := a2
    cases v with
    | nil =>
      simp at a1
      omega
    | cons b v => simp
  · rintro ⟨⟨⟨a2, a3, a4, a5⟩, hl⟩, a1⟩
    refine ⟨?_, a2, a3, a4, a5⟩
    cases w with
    | nil => simp at hl
    | cons b v =>
      simp at a1
      rw [List.getElem?_cons_zero, a1]
theorem ranked_eq {many h : Nat} {rs ss : List (Nat × Nat)} {ws wh : List (List Nat)} (h1 : 1 ≤ h) (n1 : ws.Nodup) (m1 : ∀ w, w ∈ ws ↔ SufOk many rs w ∧ 2 ≤ w.length) (n2 : wh.Nodup) (m2 : ∀ w, w ∈ wh ↔ WayOk many rs h w) :
    (srt lt3 ((wh.filter (fitB ss)).map (key3 ss))).map (fun t => t.2.2) = (srt (kLt ss) (ws.filter (fitB ss))).filter (ofH h) := by
  have e1 : srt lt3 ((wh.filter (fitB ss)).map (key3 ss)) = (srt (kLt ss) (wh.filter (fitB ss))).map (key3 ss) := by
    unfold srt
    exact (List.map_mergeSort (f := key3 ss) (r := fun a b => !kLt ss b a) (s := fun a b => !lt3 b a) fun a _ b _ => rfl).symm
  rw [e1, List.map_map]
  have e2 : ((fun t : T3 => t.2.2) ∘ key3 ss) = id := rfl
  rw [e2, List.map_id]
  have s1 := srt_strict (ordK ss) (n1.filter (fitB ss))
  refine srt_eq (ordK ss) ?_ (s1.filter _)
  refine (List.perm_ext_iff_of_nodup (n2.filter _) (((srt_perm (lt := kLt ss) _).nodup_iff.mpr (n1.filter _)).filter _)).mpr fun w => ?_
  rw [List.mem_filter, List.mem_filter, (srt_perm (lt := kLt ss) _).mem_iff, List.mem_filter, m1, m2, head_of h1]
  constructor
  · rintro ⟨⟨a, b⟩, c⟩
    exact ⟨⟨a, c⟩, b⟩
  · rintro ⟨⟨a, c⟩, b⟩
    exact ⟨⟨a, b⟩, c⟩
end LW
namespace LW
open PySem PySem.Spec PyProof.Rows L2 PF
def trR (ss ps : List (Nat × Nat)) : List (Nat × Nat) := srt rlt ((ss ++ ps).map nrm)
theorem srtR_ok {xs : List (Nat × Nat)} (hl : xs.length ≤ 1000) (Q : D → Prop) (h : Q (.list ((srt rlt xs).map rD))) : W (bSorted [.list (xs.map rD)]) Q := by
  rw [W_srtL, encR.srt]
  exact ⟨encR.sortOk (n := 1) (fun a => rD_pl a 0) (by omega) _ (.inl fun r _ => rfl) (by show _ ≤ 16777216; omega), h⟩
def rnkd (ss : List (Nat × Nat)) (ws : List (List Nat)) : List (List Nat) := srt (kLt ss) (ws.filter (fitB ss))
def trG (many : Nat) (ss ps : List (Nat × Nat)) (ws : List (List Nat)) : D :=
  .tuple [.int (many : Nat), rsD (trR ss ps), .tuple ((List.range (many - 1)).map fun k => wsD (((rnkd ss ws).filter (ofH (1 + k))).take 6))]
theorem few_of {most many : Nat} {ss ps : List (Nat × Nat)} (g : TrOk most many ss ps) (hm : most ≤ 7) : ss.length + ps.length ≤ 21 := by
  have hhi := g.hi
  have h1 := List.Nodup.length_le_of_subset g.nd g.mem
  have h3 : (prs many).length ≤ 21 := prs_len (many := many) (i := many) (by omega) (Nat.le_refl _)
  simp only [List.length_append, List.length_map] at h1
  omega
theorem at_0 {w : List Nat} (h : 2 ≤ w.length) : atI (nD w) 0 = some (.int (w.getD 0 0 : Nat)) := by
  cases w with
  | nil => simp at h
  | cons a w => exact at_nat (j := 0) rfl rfl
theorem at_1 {w : List Nat} (h : 2 ≤ w.length) : atI (nD w) 1 = some (.int (w.getD 1 0 : Nat)) := by
  cases w with
  | nil => simp at h
  | cons a w =>
    cases w with
    | nil => simp at h
    | cons b w => exact at_nat (j := 1) rfl rfl
theorem t3D_pl (t : T3) (n : Nat) : pl (t3D t) (n + 2) = true := pl_tup fun d hd => by
  simp only [List.mem_cons, List.not_mem_nil, or_false] at hd
  rcases hd with rfl | rfl | rfl
  · exact pl_int _ _
  · exact pl_int _ _
  · exact wD_pl _ n
theorem W_lenW (w : List Nat) (Q : D → Prop) : W (bLen [wD w]) Q = Q (.int (w.length : Nat)) := by
  unfold wD
  rw [W_lenT, nD_len]
theorem gtrade_ok {most many : Nat} {ss ps : List (Nat × Nat)} (g : TrOk most many ss ps) (hm : most ≤ 7) :
    W (f_guild_of_trade [tD many ss ps]) fun d => ∃ ws : List (List Nat), ws.Nodup ∧ (∀ w, w ∈ ws ↔ SufOk many (trR ss ps) w ∧ 2 ≤ w.length) ∧ d = trG many ss ps ws := by
  have hlo := g.lo
  have hhi := g.hi
  have hf := few_of g hm
  refine W_run ?_
  simp only [den_guild_of_trade, ex_all]
  have et : tD many ss ps = .tuple [.int (many : Nat), rsD ss, rsD ps] := rfl
  rw [et]
  try simp only [↓ev_all, ↓eg, ↓eT]
  refine W_addR ss ps _ (by omega) ?_
  try simp only [↓ev_all, ↓eg, ↓eT]
  refine W.of (comp_typed _ rD (fun p => rD (nrm p)) fun p hp => ?_) ?_
  · simp only [wipeE, List.set_cons_succ, List.set_cons_zero]
    simp only [↓ev_all, ↓eg, ↓eT, mm_rD]
    rfl
  have e : List.map (fun p => rD (nrm p)) (ss ++ ps) = ((ss ++ ps).map nrm).map rD := by rw [List.map_map]; rfl
  rw [e]
  try simp only [↓ev_all, ↓eg, ↓eT]
  refine srtR_ok (by simp; omega) _ ?_
  try simp only [↓ev_all, ↓eg, ↓eT]
  refine (hall_ok (many := many) (rs := trR ss ps) (rd := rsD (trR ss ps)) hlo (by omega) (fun r Q => W_inRT r _ Q)).mono fun d ⟨ws, hd, hnd, hl, hw⟩ => ?_
  subst hd
  try simp only [↓ev_all, ↓eg, ↓eT]
  refine W.of (comp_typed_if _ wD wD (fitB ss) fun w hw' => ?_) ?_
  · simp only [wipeE, List.set_cons_succ, List.set_cons_zero]
    try simp only [↓ev_all, ↓eg, ↓eT]
    refine W.of (fit_ok many ss ps w) ?_
    try simp only [↓ev_all, ↓eg, ↓eT]
    exact ⟨by first | rfl | trivial, fun _ => by first | rfl | trivial⟩
  have hfl : ∀ w ∈ ws.filter (fitB ss), SufOk many (trR ss ps) w ∧ 2 ≤ w.length := fun w h => (hw w).mp (List.mem_filter.mp h).1
  have hfn : (ws.filter (fitB ss)).length ≤ 6000000 := Nat.le_trans (List.length_filter_le _ _) hl
  try simp only [↓ev_all, ↓W_sortKey, ↓eg, ↓eT]
  refine W.of (keysL_t wD (fun w => t3D (key3 ss w)) _ fun w hw' => ?_) ?_
  · have h2 := (hfl w hw').2
    simp only [List.set_cons_succ, List.set_cons_zero]
    try simp only [↓ev_all, ↓eg, ↓eT]
    refine W.of (at_0 h2) ?_
    try simp only [↓ev_all, ↓eg, ↓eT]
    refine W.of (at_1 h2) ?_
    try simp only [↓ev_all, ↓eg, ↓eT]
    refine W.of (rank_ok many ss ps _ _) ?_
    try simp only [↓ev_all, ↓eg, ↓eT, ↓W_lenW]
    rfl
  refine ⟨?_, ?_⟩
  · have e3 : (ws.filter (fitB ss)).map (fun w => t3D (key3 ss w)) = ((ws.filter (fitB ss)).map (key3 ss)).map t3D := by rw [List.map_map]; rfl
    rw [e3]
    exact enc3.sortOk (n := 2) (fun a => t3D_pl a 0) (by omega) _ (.inl fun r _ => rfl) (by rw [List.length_map]; show _ ≤ 16777216; omega)
  rw [sortBy_t enc3 wD (key3 ss)]
  have er : srt (fun a b => lt3 (key3 ss a) (key3 ss b)) (ws.filter (fitB ss)) = rnkd ss ws := rfl
  rw [er]
  have hrk : ∀ w ∈ rnkd ss ws, 2 ≤ w.length := fun w h => (hfl w ((srt_perm (lt := kLt ss) _).mem_iff.mp h)).2
  try simp only [↓ev_all, ↓eg, ↓eT]
  refine ⟨rg_ok (by omega) (by omega) (by omega) (by omega), ?_⟩
  rw [rg_map (x := 1) 1 rfl]
  have ez0 : ((many : Int) - ((1 : Nat) : Int)).toNat = many - 1 := by omega
  rw [ez0]
  refine W.of (comp_typed _ _ (fun k => wsD (((rnkd ss ws).filter (ofH (1 + k))).take 6)) fun k hk => ?_) ?_
  · simp only [wipeE, List.set_cons_succ, List.set_cons_zero]
    try simp only [↓ev_all, ↓eg, ↓eT]
    refine W.of (comp_typed_if _ wD wD (ofH (1 + k)) fun w hw' => ?_) ?_
    · simp only [wipeE, List.set_cons_succ, List.set_cons_zero]
      try simp only [↓ev_all, ↓eg, ↓eT]
      refine W.of (at_0 (hrk w hw')) ?_
      try simp only [↓ev_all, ↓eg, ↓eT]
      refine ⟨decide_eq_decide.mpr (by omega), fun _ => by first | rfl | trivial⟩
    try simp only [↓ev_all, ↓eg, ↓eT]
    have ec := cut_to (((rnkd ss ws).filter (ofH (1 + k))).map wD) 6
    rw [show ((6 : Nat) : Int) = 6 from rfl, ← List.map_take] at ec
    rw [ec]
    try simp only [↓ev_all, ↓eg, ↓eT]
    rfl
  try simp only [↓ev_all, ↓eg, ↓eT]
  exact ⟨ws, hnd, hw, rfl⟩
end LW
namespace PF
open PySem PySem.Spec PyProof.Rows L2 RZ
def NoLst (G : Hp) : Prop := ∀ a xs, G a ≠ some (.lst xs)
def noL1 : Option HO → Option HO
  | some (.lst _) => none
  | r => r
def nol (G : Hp) : Hp := fun a => noL1 (G a)
theorem noL1_some {r : Option HO} {o : HO} (h : noL1 r = some o) : r = some o := by
  cases r with
  | none => cases h
  | some u => cases u <;> first | exact h | cases h
theorem nol_of {G : Hp} {a : Addr} {o : HO} (h : nol G a = some o) : G a = some o := noL1_some h
theorem nol_get {G : Hp} {a : Addr} {o : HO} (h : G a = some o) (n : ∀ xs, o ≠ .lst xs) : nol G a = some o := by
  unfold nol
  rw [h]
  cases o with
  | lst xs => exact absurd rfl (n xs)
  | _ => rfl
theorem nol_none {G : Hp} {a : Addr} (h : G a = none) : nol G a = none := by
  unfold nol
  rw [h]
  rfl
theorem same_nol {B G : Hp} (hb : NoLst B) (s : Same B G) : Same B (nol G) := fun a o h => nol_get (s a o h) fun xs z => hb a xs (by rw [h, z])
def erD : List (D × D) → D
  | (.list [], .none) :: s => .dict ((.list [], .none) :: s)
  | [(.tuple [], .none)] => .dict [(.tuple [], .none)]
  | _ => holD
mutual
def er : D → D
  | .list _ => holD
  | .tuple ds => .tuple (ers ds)
  | .dict r => erD r
  | .none => .none
  | .bool b => .bool b
  | .int i => .int i
  | .str x => .str x
def ers : List D → List D
  | [] => []
  | d :: ds => er d :: ers ds
end
section
variable {K : PySem.W.Frag} {G : Hp}
theorem tg_nol {a : Addr} {xs : List V} (h : TupG G a xs) : TupG (nol G) a xs := let ⟨o, h1, h2⟩ := h; ⟨o, nol_get h1 (fun _ z => nomatch z), h2⟩
theorem ScrOk.nol {a : Addr} {xs : List V} (h : ScrOk K G a xs) : ScrOk K (nol G) a xs := h.elim (fun ⟨o, h⟩ => .inl ⟨o, nol_get h (fun _ z => nomatch z)⟩) .inr
mutual
theorem rp_er : ∀ {v : V} {d : D}, Rp K G v d → Rp K (nol G) v (er d)
  | _, _, .non => by rw [er]; exact .non
  | _, _, .bl b => by rw [er]; exact .bl b
  | _, _, .int i => by rw [er]; exact .int i
  | _, _, .str x => by rw [er]; exact .str x
  | _, _, .lst h r => by rw [er]; exact .hol (fun z => nomatch z)
  | _, _, .tup h r => by rw [er]; exact .tup (tg_nol h) (rps_er r)
  | _, _, .scr h => by rw [er]; exact .scr h.nol
  | _, _, .dic h r => by rw [er]; exact .hol (fun z => nomatch z)
  | _, _, .wtp h => by rw [er]; exact .wtp h
  | _, _, .hol h => by rw [er]; exact .hol h
  | _, _, .exc h r => by rw [er]; exact .hol (fun z => nomatch z)
theorem rps_er : ∀ {vs : List V} {ds : List D}, RpAll K G vs ds → RpAll K (nol G) vs (ers ds)
  | _, _, .nil => by rw [ers]; exact .nil
  | _, _, .cons a b => by rw [ers]; exact .cons (rp_er a) (rps_er b)
end
mutual
theorem er_key : ∀ {d : D} {k : NestedKey}, keyD d = some k → er d = d
  | .none, _, _ => by rw [er]
  | .int i, _, _ => by rw [er]
  | .tuple ds, k, h => by
    rw [keyD] at h
    obtain ⟨ks, h1, _⟩ := Option.map_eq_some_iff.mp h
    rw [er, ers_key h1]
  | .bool _, _, h => by simp [keyD] at h
  | .str _, _, h => by simp [keyD] at h
  | .list _, _, h => by simp [keyD] at h
  | .dict _, _, h => by simp [keyD] at h
theorem ers_key : ∀ {ds : List D} {ks : List NestedKey}, keysD ds = some ks → ers ds = ds
  | [], _, _ => by rw [ers]
  | d :: ds, ks, h => by
    rw [keysD] at h
    obtain ⟨k, h1, h⟩ := Option.bind_eq_some_iff.mp h
    obtain ⟨ks', h2, _⟩ := Option.map_eq_some_iff.mp h
    rw [ers, er_key h1, ers_key h2]
end
theorem er_keyT {d : D} {k : NestedKey} (h : keyT d = some k) : er d = d := by
  unfold keyT at h
  split at h
  · obtain ⟨k', h1, _⟩ := Option.bind_eq_some_iff.mp h
    exact er_key h1
  · cases h
def erKV (kvs : List (D × D)) : List (D × D) := kvs.map fun p => (p.1, er p.2)
theorem kv_er : ∀ {xs : List DN.Ent} {kvs : List (D × D)}, RpKV K G xs kvs → RpKV K (nol G) xs (erKV kvs)
  | _, _, .nil => .nil
  | _, _, .cons h a b c => .cons h (by have := rp_er a; rw [er_keyT h] at this; exact this) (rp_er b) (kv_er c)
end
def erS : SV → SV
  | .val d => .val (er d)
  | .own xs => .own (ers xs)
  | .dic kvs => .dic (erKV kvs)
  | .look xs => .look (ers xs)
def erE (ρ : Env) : Env := ρ.map fun o => o.map erS
theorem erE_get {ρ : Env} {i : Nat} {sv : SV} (h : (erE ρ)[i]? = some (some sv)) : ∃ sv', ρ[i]? = some (some sv') ∧ sv = erS sv' := by
  unfold erE at h
  rw [List.getElem?_map] at h
  obtain ⟨o, h1, h2⟩ := Option.map_eq_some_iff.mp h
  cases o with
  | none => cases h2
  | some sv' => cases h2; exact ⟨sv', h1, rfl⟩
theorem erE_own {ρ : Env} {i : Nat} {xs : List D} (h : (erE ρ)[i]? = some (some (.own xs))) : ∃ ys, ρ[i]? = some (some (.own ys)) := by
  obtain ⟨sv, h1, h2⟩ := erE_get h
  cases sv with
  | own ys => exact ⟨ys, h1⟩
  | _ => cases h2
theorem erE_dic {ρ : Env} {i : Nat} {xs : List (D × D)} (h : (erE ρ)[i]? = some (some (.dic xs))) : ∃ ys, ρ[i]? = some (some (.dic ys)) := by
  obtain ⟨sv, h1, h2⟩ := erE_get h
  cases sv with
  | dic ys => exact ⟨ys, h1⟩
  | _ => cases h2
section
variable {K : PySem.W.Frag} {H0 G0 H G : Hp} {σ : St} {ρ : Env}
theorem Step.nol (s : Step K H0 G0 H G) (hn : NoLst G0) : Step K H0 G0 H (PF.nol G) where
  same := s.same
  gg := same_nol hn s.gg
  gh := fun a o h => s.gh a o (nol_of h)
  old := fun a h => by
    have e := s.old a h
    cases q : G0 a with
    | none => rw [q] at e; rw [nol_none e]
    | some o => rw [q] at e; exact nol_get e fun xs z => hn a xs (by rw [q, z])
theorem EnvOk.erase (e : EnvOk K H0 G0 H G σ ρ) (hn : NoLst G0) : EnvOk K H0 G0 H (PF.nol G) σ (erE ρ) where
  tabs := e.tabs
  len := by unfold erE; rw [List.length_map]; exact e.len
  st := e.st.nol hn
  sl := fun i sv h => by
    obtain ⟨sv', h1, rfl⟩ := erE_get h
    obtain ⟨v, h2, h3⟩ := e.sl i sv' h1
    refine ⟨v, h2, ?_⟩
    cases sv' with
    | val d => exact rp_er h3
    | own xs =>
      obtain ⟨a, vs, k1, k2, k3, k4, k5⟩ := h3
      exact ⟨a, vs, k1, k2, rps_er k3, nol_none k4, k5⟩
    | dic xs =>
      obtain ⟨a, ep, vs, k1, k2, k3, k4, k5⟩ := h3
      exact ⟨a, ep, vs, k1, k2, kv_er k3, nol_none k4, k5⟩
    | look xs =>
      obtain ⟨a, vs, k1, k2, k3⟩ := h3
      exact ⟨a, vs, k1, k2, rps_er k3⟩
  sep := fun i j xs ys hij h1 h2 => by
    obtain ⟨xs', k1⟩ := erE_own h1
    obtain ⟨ys', k2⟩ := erE_own h2
    exact e.sep i j xs' ys' hij k1 k2
  sepD := fun i j xs ys hij h1 h2 => by
    obtain ⟨xs', k1⟩ := erE_dic h1
    obtain ⟨ys', k2⟩ := erE_dic h2
    exact e.sepD i j xs' ys' hij k1 k2
theorem EnvOk.fresh (e : EnvOk K H0 G0 H G σ ρ) (hn : NoLst G0) {a : Addr} {vs : List V} (h : G a = some (.lst vs)) : H0 a = none ∧ H a = some (.lst vs) := by
  refine ⟨?_, e.gh a _ h⟩
  cases q : H0 a with
  | none => rfl
  | some o =>
    have := e.st.old a (some_ne q)
    rw [h] at this
    exact absurd this.symm (hn a vs)
end
end PF
namespace PF
open PySem PySem.Spec PyProof.Rows L2 RZ
structure Xc where
  cls : Str
  fs : List (D × D)
inductive OutX where
  | n (o : Out) | x (e : Xc) (ρ : Env)
abbrev DenX := Env → Option OutX
def emb (F : DenS) : DenX := fun ρ => (F ρ).map .n
def XF (mg : Str → Option Value) (K : PySem.W.Frag) (H G : Hp) (e : Xc) (cls : Value) (d : Option Addr) : Prop :=
  ∃ (C dd : Addr) (fs : List (Str × V)), mg e.cls = some (.ref C) ∧ cls = .ref C ∧ d = some dd ∧ G dd = some (.xd fs) ∧ RpF K G fs e.fs
def GoesX (mg : Str → Option Value) (K : PySem.W.Frag) (W : WX) (H0 G0 B : Hp) (Dn : Ends) : OutX → Prop
  | .n o => Goes K H0 G0 B Dn o
  | .x e ρ' => ∀ σ' H' G' cls d, Same B G' → EnvOk K H0 G0 H' G' σ' ρ' → XF mg K H' G' e cls d → W cls d σ' H'
theorem GoesX.mono {mg : Str → Option Value} {K : PySem.W.Frag} {W : WX} {H0 G0 B B' : Hp} {Dn : Ends} (g : Same B B') : ∀ {out : OutX}, GoesX mg K W H0 G0 B Dn out → GoesX mg K W H0 G0 B' Dn out
  | .n _, h => Goes.mono g h
  | .x _ _, h => fun σ' H' G' cls d s e f => h σ' H' G' cls d (g.trans s) e f
section
variable {X : Cx} {mg : Str → Option Value} {nl : Bool} {W : WX} {tg c e : Expr} {fc f : Den} {pos p : Pos}
def dSeqX (F F' : DenX) : DenX := fun ρ => match F ρ with
  | some (.n (.next ρ')) => F' ρ'
  | r => r
def dIfX (c : Den) (F F' : DenX) : DenX := fun ρ => match c ρ with
  | some (.bool true) => F ρ
  | some (.bool false) => F' ρ
  | _ => none
def forX (b : D → Env → Option Env) (F : DenX) : List D → Env → Option OutX
  | [], ρ => some (.n (.next ρ))
  | x :: xs, ρ => (b x ρ).bind fun ρ1 => match F ρ1 with
    | some (.n (.next ρ2)) => forX b F xs ρ2
    | some (.n (.cont ρ2)) => forX b F xs ρ2
    | some (.n (.brk ρ2)) => some (.n (.next ρ2))
    | some (.n (.ret d)) => some (.n (.ret d))
    | some (.n (.reto d)) => some (.n (.reto d))
    | some (.x e ρ2) => some (.x e ρ2)
    | none => none
def dForX (it : Env → Option (List D)) (b : D → Env → Option Env) (F : DenX) : DenX := fun ρ => (it ρ).bind fun items => forX b F items ρ
def whileX (c : Den) (F : DenX) : Nat → Env → Option OutX
  | 0, _ => none
  | n + 1, ρ => match c ρ with
    | some (.bool true) => match F ρ with
      | some (.n (.next ρ2)) => whileX c F n ρ2
      | some (.n (.cont ρ2)) => whileX c F n ρ2
      | some (.n (.brk ρ2)) => some (.n (.next ρ2))
      | some (.n (.ret d)) => some (.n (.ret d))
      | some (.n (.reto d)) => some (.n (.reto d))
      | some (.x e ρ2) => some (.x e ρ2)
      | none => none
    | some (.bool false) => some (.n (.next ρ))
    | _ => none
end
end PF
namespace PF
open PySem PySem.Spec PyProof.Rows L2 RZ
abbrev RecX := Ctx → Stmt → Option DenX
section
variable {k : Nat} {r : Rec} {rs : RecX} {Γ : Ctx} {X : Cx} {pos p p' : Pos}
end
section
variable {P : Program} {w : World} {K : PySem.W.Frag} {mg : Str → Option Value} {base : Heap}
end
end PF
namespace ZX
open PySem PySem.Spec PyProof.Rows L2
section
variable {X : Cx} {CX : CXT} {C fI : Addr} {k : Nat} {fd : FuncData} {ps : List Str} {sp : Sp}
end
end ZX
namespace PF
open PySem PySem.Spec PyProof.Rows L2 RZ
def MkA (P : Program) (w : World) (K : PySem.W.Frag) (mg : Str → Option Value) (base : Heap) (k : Nat) (x : Str) (n : Nat) (mk : List D → Option (List (D × D))) : Prop :=
  ∃ C fI fd ps sp, mg x = some (.ref C) ∧ OexC K C ∧ PySem.W.findIn K (.ref C) "__init__" = some (some (.ref fI)) ∧ PySem.W.typeIn K (.ref fI) = some (.type "function") ∧ FnOk P w K mg base CX0 k fI fd ps sp ∧ Binds K fd ps [] ∧
    ∀ G vs ds fl (a : Addr) H Q, Same G H → RpAll K G vs ds → ds.length = n → mk ds = some fl → H a = some (exo a C none) →
      (∀ dx fs, H dx = none → dx ≠ a → RpF K G fs fl → Q .non (upd (upd H dx (exd dx fs)) a (exo a C (some dx)))) → sp (.ref a :: vs) H Q (fun _ _ _ => False)
def dRaise (x : Str) (mk : List D → Option (List (D × D))) (fs : List Den) : DenX := fun ρ => (dArgs fs ρ).bind fun ds => (mk ds).map fun fl => .x ⟨x, fl⟩ ρ
section
variable {X : Cx} {mg : Str → Option Value} {nl : Bool} {W : WX} {e : Expr} {es : List Expr} {fs : List Den} {pos p p' : Pos} {k n : Nat} {x : Str}
def spE (K : PySem.W.Frag) (mg : Str → Option Value) (n : Nat) (g : List D → Option Xc) : Sp := fun vs H _ E => ∃ G ds e, TbOk K G H ∧ Same G H ∧ RpAll K G vs ds ∧ ds.length = n ∧ g ds = some e ∧ ∀ H' G' cls d, Step K H G H' G' → XF mg K H' G' e cls d → E cls d H'
def AvX (P : Program) (w : World) (K : PySem.W.Frag) (mg : Str → Option Value) (base : Heap) (k : Nat) (x : Str) (n : Nat) (g : List D → Option Xc) : Prop :=
  ∃ fa fd ps, mg x = some (.ref fa) ∧ PySem.W.keepIn K (.ref fa) = true ∧ Binds K fd ps [] ∧ FnOk P w K mg base (L2N.CX P w) k fa fd ps (spE K mg n g)
theorem AvX.mono {P : Program} {w : World} {K : PySem.W.Frag} {mg : Str → Option Value} {base : Heap} {j k n : Nat} {x : Str} {g : List D → Option Xc} (h : AvX P w K mg base j x n g) (hj : j ≤ k) : AvX P w K mg base k x n g := by
  obtain ⟨fa, fd, ps, h1, h2, h3, h4⟩ := h
  exact ⟨fa, fd, ps, h1, h2, h3, h4.mono hj⟩
theorem MkA.mono {P : Program} {w : World} {K : PySem.W.Frag} {mg : Str → Option Value} {base : Heap} {j k n : Nat} {x : Str} {mk : List D → Option (List (D × D))} (h : MkA P w K mg base j x n mk) (hj : j ≤ k) : MkA P w K mg base k x n mk := by
  obtain ⟨C, fI, fd, ps, sp, h1, h2, h3, h4, h5, h6⟩ := h
  exact ⟨C, fI, fd, ps, sp, h1, h2, h3, h4, h5.mono hj, h6⟩
def dCallX (g : List D → Option Xc) (fs : List Den) : Env → Option Xc := fun ρ => (dArgs fs ρ).bind g
def AvXK (P : Program) (w : World) (K : PySem.W.Frag) (mg : Str → Option Value) (base : Heap) (k : Nat) (x : Str) (ks : List Str) (n : Nat) (F : List D → List D → Option Xc) : Prop :=
  ∃ fa fd ps gg gV np g, mg x = some (.ref fa) ∧ PySem.W.keepIn K (.ref fa) = true ∧ KBn K fd ps n ks gg gV ∧ FnOk P w K mg base (L2N.CX P w) k fa fd ps (spE K mg np g) ∧
    ∀ (G : Hp) vs ds zs es d, RpAll K G vs ds → RpAll K G zs es → ds.length = n → es.length = ks.length → F ds es = some d → ∃ ds', RpAll K G (gV vs zs) ds' ∧ ds'.length = np ∧ g ds' = some d
theorem AvXK.mono {P : Program} {w : World} {K : PySem.W.Frag} {mg : Str → Option Value} {base : Heap} {j k n : Nat} {x : Str} {ks : List Str} {g : List D → List D → Option Xc} (h : AvXK P w K mg base j x ks n g) (hj : j ≤ k) : AvXK P w K mg base k x ks n g := by
  obtain ⟨fa, fd, ps, gg, gV, np, f, h1, h2, h3, h4, h5⟩ := h
  exact ⟨fa, fd, ps, gg, gV, np, f, h1, h2, h3, h4.mono hj, h5⟩
def dCallXK (F : List D → List D → Option Xc) (fs zs : List Den) : Env → Option Xc := fun ρ => (dArgs fs ρ).bind fun ds => (dArgs zs ρ).bind fun es => F ds es
def dIfXe (f : Den) (g h : Env → Option Xc) : Env → Option Xc := fun ρ => match f ρ with
  | some (.bool true) => g ρ
  | some (.bool false) => h ρ
  | _ => none
def orX (g : Env → Option Xc) (F : DenX) : DenX := fun ρ => match g ρ with
  | some e => some (.x e ρ)
  | none => F ρ
variable {g : Env → Option Xc} {i : Nat}
end
end PF
namespace PF
open PySem PySem.Spec PyProof.Rows L2 RZ
section
variable {X : Cx} {st : Stmt} {tg e : Expr} {es : List Expr}
end
section
open L2H
end
def hit (w x : Str) : Bool := decide (x = "WayError") || decide (w = x)
structure Cy where
  g : Ctx
  xfs : List (Str × Nat × (List D → Option Xc)) := []
  cls : List (Str × Nat × (List D → Option (List (D × D)))) := []
  ws : List Str := []
  xfks : List (Str × List Str × Nat × (List D → List D → Option Xc)) := []
  hs : List Str := []
  hf : List Str := []
def findKX : List (Str × List Str × Nat × (List D → List D → Option Xc)) → Str → List Str → Option (Nat × (List D → List D → Option Xc))
  | [], _, _ => none
  | (y, ls, q) :: r, x, ks => if y = x ∧ ls = ks then some q else findKX r x ks
def kxOf (l : List (Str × List Str × Nat × (List D → List D → Option Xc))) (x : Str) (kws : List Keyword) : Option ((List Str × List Expr) × Nat × (List D → List D → Option Xc)) := (kwOf kws).bind fun q => (findKX l x q.1).map fun r => (q, r)
def inB (x : Str) : Option (Bool × String) := if x = "sorted" then some (false, "sorted") else if x = "list" then some (true, "list") else if x = "len" then some (false, "len") else none
def cXe (Δ : Cy) : Nat → Expr → Option (Env → Option Xc)
  | 0, _ => none
  | n + 1, e => match e with
    | .Call (.Name x _) (a :: as) kws _ => match kxOf Δ.xfks x kws with
      | some (q, m, F) => if glB Δ.g.sc x = true then (cArgs (cE 14) Δ.g (a :: as)).bind fun fs => (cArgs (cE 14) Δ.g q.2).bind fun zs => if fs.length = m ∧ zs.length = q.1.length then some (dCallXK F fs zs) else none else none
      | none => match kws with
        | [] => (match Δ.xfs.lookup x with
          | some (m, g) => if glB Δ.g.sc x = true then (cArgs (cE 14) Δ.g (a :: as)).bind fun fs => if fs.length = m then some (dCallX g fs) else none else none
          | none => match as with
            | [] => if isStar a = false ∧ glB Δ.g.sc x = true then (match inB x with
              | some _ => cXe Δ n a
              | none => match Δ.g.fns.lookup x with
                | some _ => cXe Δ n a
                | none => none) else none
            | _ => none)
        | _ => none
    | .Subscript a _ _ => cXe Δ n a
    | .Compare a [_] [c] _ => if isSet c = false then cXe Δ n a else none
    | .ListComp _ [⟨_, iter, _, 0⟩] _ _ => cXe Δ n iter
    | .IfExp c a d _ => if isIf c = false then (cF (cE 14) Δ.g c).bind fun fc => (cXe Δ n a).bind fun ga => (cXe Δ n d).map fun gd => dIfXe fc ga gd else none
    | _ => none
section
variable {k : Nat} {Δ : Cy} {X : Cx} {W : WX} {pos p p' : Pos}
def lcOf : Expr → Option (Expr × Scope × Pos)
  | .ListComp _ [⟨_, iter, _, 0⟩] scope pos => some (iter, scope, pos)
  | _ => none
def lcZ (Δ : Cy) (y : Str) (p' : Pos) (e : Expr) (sp : Pos) : Option DenX := match lcOf e with
  | some (iter, scope, pos) => (match cXe Δ 5 iter with
    | some g => if Δ.g.sc.names.lookup y ≠ some .local ∨ swB Δ.g scope y p' pos = true then (cSlot Δ.g y).bind fun _ => (cS 14 8 Δ.g (.Assign [.Name y p'] e sp)).map fun F => orX g (emb F) else none
    | none => none)
  | none => none
abbrev RecZ := Cy → Stmt → Option DenX
def cSsZ (rs : RecZ) (Δ : Cy) : List Stmt → Option DenX
  | [] => some fun ρ => some (.n (.next ρ))
  | [s] => rs Δ s
  | s :: t :: r => (rs Δ s).bind fun F => (cSsZ rs Δ (t :: r)).map fun F' => dSeqX F F'
def leafZ (Δ : Cy) (st : Stmt) (e : Option Expr) : Option DenX := match e.bind (cXe Δ 5) with
  | some g => (cS 14 8 Δ.g st).map fun F => orX g (emb F)
  | none => (cS 14 8 Δ.g st).map emb
def stepZ (rs : RecZ) : RecZ := fun Δ st => match st with
  | .Raise (some (.Call (.Name x _) as [] _)) none _ => (Δ.cls.lookup x).bind fun q => if glB Δ.g.sc x = true then (cArgs (cE 14) Δ.g as).bind fun fs => if fs.length = q.1 ∧ q.1 ≤ 1000 then some (dRaise x q.2 fs) else none else none
  | .If c A B _ => if isIf c = false then (cF (cE 14) Δ.g c).bind fun fc => (cSsZ rs Δ A).bind fun F => (cSsZ rs Δ B).map fun F' => (fun ρ => dIfX fc F F' (fzE ρ (escE Δ.g 12 c))) else none
  | .For tg iter body [] _ => if isSet iter = false then (cIt (cE 14) Δ.g false tg iter).bind fun it => (cTg Δ.g 4 tg).bind fun tb => (cSsZ rs Δ body).map fun F => (match cXe Δ 5 iter with
      | some g => orX g (fun ρ => dForX it tb.2 F (fzE ρ (escI Δ.g iter)))
      | none => (fun ρ => dForX it tb.2 F (fzE ρ (escI Δ.g iter)))) else none
  | .While c body [] _ => if isIf c = false then (cF (cE 14) Δ.g c).bind fun fc => (cSsZ rs Δ body).map fun F => whileX fc F Δ.g.wf else none
  | .Assign [.Name y p'] e sp => if isComp e = false then (cSlot Δ.g y).bind fun _ => leafZ Δ (.Assign [.Name y p'] e sp) (some e) else match lcZ Δ y p' e sp with
      | some F => some F
      | none => leafZ Δ (.Assign [.Name y p'] e sp) none
  | .Return (some e) sp => leafZ Δ (.Return (some e) sp) (some e)
  | .Expr e sp => if isComp e = false then leafZ Δ (.Expr e sp) (some e) else none
  | st => leafZ Δ st none
end
end PF
namespace PF
open PySem PySem.Spec PyProof.Rows L2 RZ L2H
def excCB (K : PySem.W.Frag) (D : Addr) : Bool := (PySem.W.clsIn K D).isSome && (decide (PySem.W.findIn K (.ref D) "__getattribute__" = some (some (.builtin "BaseException.__getattribute__"))) && (decide (PySem.W.findIn K (.ref D) "__getattr__" = some none) &&
  (decide (PySem.W.subIn K (.ref D) (.type "BaseException") = some true) && (decide (PySem.W.findIn K (.ref D) "__class__" = some (some (.builtin "object.__class__"))) && (decide (PySem.W.specialIn K (.builtin "object.__class__") "__get__" = some (some (.builtin "getset_descriptor.__get__"))) &&
  (decide (PySem.W.takesIn K (.builtin "object.__class__") = some true) && decide (PySem.W.mroIn K D (.type "object") = some true)))))))
section
variable {X : Cx} {p : Addr × Obj} {dd C : Addr} {fs : List (Str × V)}
structure HotE (X : Cx) (p : Addr × Obj) (C dd : Addr) : Prop where
  pn : p ∈ X.pn
  zn : L2N.Zn (.ref C) (some dd) p.2
  fl : ∃ vs, p.2.data = .fields vs
  cb : excCB X.K C = true
end
def w17 : List Str := ["NoGuild", "NoOrder", "NoRule", "NoLetter", "NoRoad", "Broken", "Whole", "NoHouse", "NoLikes", "NothingLeft", "NoDeed", "TooDeep", "NoText", "NoRow", "TooMany", "Unsettled", "Stopped"]
end PF
namespace PF
open PySem PySem.Spec PyProof.Rows L2 RZ L2H
def wNm : List Str := ["e", "kinds", "words"]
structure WdX (X : Cx) (p : Addr × Obj) (C dd : Addr) (bit : Str → Bool) : Prop where
  hot : HotE X p C dd
  N : X.N = wNm
  loc : ∀ y ∈ wNm, X.env.scope.names.lookup y = some .local
  isi : Gl X "isinstance" ∧ X.mg "isinstance" = none
  cls : ∀ c ∈ w17, Gl X c ∧ ∃ Cc, X.mg c = some (.ref Cc) ∧ PySem.W.kitOne X.K (.ref C) (.ref Cc) = some (bit c)
  ve : Gl X "ValueError" ∧ X.mg "ValueError" = none ∧ PySem.W.kitOne X.K (.ref C) (.type "ValueError") = some true
  u : X.A.units + 65 < cLine
section
variable {X : Cx} {p : Addr × Obj} {C dd : Addr} {bit : Str → Bool}
theorem WdX.nm (h : WdX X p C dd bit) {i : Nat} {y : Str} (hy : wNm[i]? = some y) (hd : (y == ("__debug__" : Str)) = false) (hc : (y == ("__classdict__" : Str)) = false) : NmOk X i y := ⟨by rw [h.N]; exact hy, .inl (h.loc y (List.mem_of_getElem? hy)), hd, hc⟩
variable (fnT : ∀ y, X.fn y = true)
end
end PF
namespace PF
open PySem PySem.Spec PyProof.Rows L2 RZ L2H
section
variable {a dd : Addr} {ds : List (D × D)} {bit : Str → Bool}
end
end PF
namespace ZH
open PySem PySem.Spec PyProof.Rows L2 L2N
section
variable {X : Cx} {n : Str} {i : Nat} {body : List Stmt} {h0 : ExceptHandler} {hd : List ExceptHandler} {l : List (Value × (Addr → Value → Option Addr → TS))} {pos : Pos} {tb : WX → TS} {Wo : WX}
end
end ZH
namespace PF
open PySem PySem.Spec PyProof.Rows L2 RZ L2H
def dTry (i j : Nat) (ws : List Str) (F : DenX) : DenX := fun ρ => match F ρ with
  | some (.x e ρ') => if e.cls ∈ ws ∧ i < ρ'.length then some (.n (.next (((ρ'.set i none).set j (some (.val (.str e.cls)))).set i none))) else none
  | r => r
section
variable {X : Cx} {W : WX} {pos pos' np : Pos} {k : Nat} {i j : Nat} {n y : Str} {ws : List Str}
end
def getF : List (D × D) → Str → Option D
  | [], _ => none
  | (.str g, d) :: r, f => if f = g then some d else getF r f
  | _ :: r, f => getF r f
def getFs (l : List (D × D)) : List Str → Option (List D)
  | [] => some []
  | f :: r => (getF l f).bind fun d => (getFs l r).map fun ds => d :: ds
abbrev Hv := Option (List Str)
def hvD (e : Xc) : Hv → Option D
  | none => some (.str e.cls)
  | some fs => (getFs e.fs fs).map fun ds => .tuple (.str e.cls :: ds)
def dTryM (i j : Nat) (ws : List Str) (hs : List (Str × Hv)) (F : DenX) : DenX := fun ρ => match F ρ with
  | some (.x e ρ') => if e.cls ∈ ws ∧ i < ρ'.length then (hs.find? fun h => hit e.cls h.1).bind fun h => (hvD e h.2).map fun d => .n (.next (((ρ'.set i none).set j (some (.val d))).set i none)) else none
  | r => r
section
variable {X : Cx} {W : WX} {pos pos' np : Pos} {k : Nat} {i j : Nat} {n y : Str} {ws : List Str}
def atsOf (n : Str) : List Expr → Option (List Str)
  | [] => some []
  | .Attribute (.Name m _) f _ :: r => if m = n then (atsOf n r).map fun fs => f :: fs else none
  | _ => none
def hvOf (n : Str) : Expr → Option Hv
  | .Call (.Name f _) [.Name m _] [] _ => if f = "_law_word" ∧ m = n then some none else none
  | .Tuple (.Call (.Name f _) [.Name m _] [] _ :: es) _ _ => if f = "_law_word" ∧ m = n then (atsOf n es).map some else none
  | _ => none
end
def hdOf (n y : Str) : List ExceptHandler → Option (List (Str × Hv))
  | [] => some []
  | .ExceptHandler (some (.Name x _)) (some m) [.Assign [.Name z _] v _] _ :: r => if m = n ∧ z = y then (hvOf n v).bind fun q => (hdOf n y r).map fun l => (x, q) :: l else none
  | _ => none
section
variable {X : Cx} {W : WX} {pos : Pos} {k : Nat} {i j : Nat} {n y : Str} {ws hs hf : List Str}
end
def tryM : Stmt → Option (List Stmt × Str × Str × List (Str × Hv))
  | .Try body (.ExceptHandler (some (.Name x p1)) (some n) [.Assign [.Name y p2] v p3] p4 :: h1 :: r) [] [] _ => (hdOf n y (.ExceptHandler (some (.Name x p1)) (some n) [.Assign [.Name y p2] v p3] p4 :: h1 :: r)).map fun q => (body, n, y, q)
  | _ => none
def hvB (hf : List Str) : Hv → Bool
  | none => true
  | some l => decide (l.length ≤ 100) && l.all fun f => decide (f ∈ hf)
def tryOf : Stmt → Option (List Stmt × Str × Str)
  | .Try body [.ExceptHandler (some (.Name x _)) (some n) [.Assign [.Name y _] (.Call (.Name f _) [.Name m _] [] _) _] _] [] [] _ => if x = "WayError" ∧ f = "_law_word" ∧ m = n then some (body, n, y) else none
  | _ => none
def stepT (rs : RecZ) : RecZ := fun Δ st => match tryOf st with
  | some (body, n, y) => if Δ.ws ≠ [] ∧ Δ.g.blk = none ∧ okNm n = true ∧ Δ.g.sc.names.lookup n = some .local ∧ Δ.g.sc.names.lookup y = some .local ∧ glB Δ.g.sc "WayError" = true ∧ glB Δ.g.sc "_law_word" = true then
      (slotOf Δ.g.N n).bind fun i => (slotOf Δ.g.N y).bind fun j => if i ≠ j then (cSsZ rs Δ body).map fun F => dTry i j Δ.ws F else none else none
  | none => match tryM st with
    | some (body, n, y, q) => if Δ.hs ≠ [] ∧ Δ.g.blk = none ∧ okNm n = true ∧ Δ.g.sc.names.lookup n = some .local ∧ Δ.g.sc.names.lookup y = some .local ∧ glB Δ.g.sc "_law_word" = true ∧ q.all (fun p => decide (p.1 ∈ Δ.hs) && glB Δ.g.sc p.1 && hvB Δ.hf p.2) = true then
        (slotOf Δ.g.N n).bind fun i => (slotOf Δ.g.N y).bind fun j => if i ≠ j then (cSsZ rs Δ body).map fun F => dTryM i j Δ.ws q F else none else none
    | none => stepZ rs Δ st
def cT : Nat → RecZ
  | 0 => fun _ _ => none
  | m + 1 => stepT (cT m)
section
variable {P : Program} {w : World} {K : PySem.W.Frag} {mg : Str → Option Value} {base : Heap}
end
end PF
namespace PF
open PySem PySem.Spec PyProof.Rows L2 RZ L2H
section
variable {P : Program} {w : World} {K : PySem.W.Frag} {mg : Str → Option Value} {base : Heap}
end
end PF
namespace PF
open PySem PySem.Spec PyProof.Rows L2 RZ L2H
end PF
namespace PF
end PF
namespace PF
open PySem PySem.Spec PyProof.Rows L2
end PF
namespace LW
open PySem PySem.Spec PyProof.Rows L2 PF
end LW
namespace K42
open PySem PySem.Spec PyProof.Rows L2 PF LW
def N_joined : List Str := ["roads", "one", "other"]
def ctx_joined : PF.Ctx := { N := N_joined, sc := defScope (topS 2), blk := none, fns := [], gls := [], own := [], wf := wFuel, fks := [], ro := false }
theorem chk_joined : cBody ctx_joined (defBody (topS 2)) = some den_joined := by kernel_rfl
theorem sc_joined : FnScope N_joined ["roads", "one", "other"] (defScope (topS 2)) := ⟨rfl, rfl, rfl, by decide +kernel, rfl, by decide +kernel, by decide +kernel⟩
def N_ways_to_hall : List Str := ["many", "roads", "found", "row", "way", "house"]
def ctx_ways_to_hall : PF.Ctx := { N := N_ways_to_hall, sc := defScope (topS 4), blk := none, fns := [("joined", 3, f_joined)], gls := [], own := [], wf := wFuel, fks := [], ro := false }
theorem chk_ways_to_hall : cBody ctx_ways_to_hall (defBody (topS 4)) = some den_ways_to_hall := by kernel_rfl
theorem sc_ways_to_hall : FnScope N_ways_to_hall ["many", "roads"] (defScope (topS 4)) := ⟨rfl, rfl, rfl, by decide +kernel, rfl, by decide +kernel, by decide +kernel⟩
def N_rank_of : List Str := ["trade", "one", "other"]
def ctx_rank_of : PF.Ctx := { N := N_rank_of, sc := defScope (topS 6), blk := none, fns := [], gls := [], own := [], wf := wFuel, fks := [], ro := false }
theorem chk_rank_of : cBody ctx_rank_of (defBody (topS 6)) = some den_rank_of := by kernel_rfl
theorem sc_rank_of : FnScope N_rank_of ["trade", "one", "other"] (defScope (topS 6)) := ⟨rfl, rfl, rfl, by decide +kernel, rfl, by decide +kernel, by decide +kernel⟩
def N_is_fit : List Str := ["trade", "way", "sorts", "one", "other"]
def ctx_is_fit : PF.Ctx := { N := N_is_fit, sc := defScope (topS 7), blk := none, fns := [("rank_of", 3, f_rank_of)], gls := [], own := [], wf := wFuel, fks := [], ro := false }
theorem chk_is_fit : cBody ctx_is_fit (defBody (topS 7)) = some den_is_fit := by kernel_rfl
theorem sc_is_fit : FnScope N_is_fit ["trade", "way"] (defScope (topS 7)) := ⟨rfl, rfl, rfl, by decide +kernel, rfl, by decide +kernel, by decide +kernel⟩
def N_guild_of_trade : List Str := ["trade", "roads", "ways", "likes", "many", "sales", "peers", "way", "house", "pair"]
def ctx_guild_of_trade : PF.Ctx := { N := N_guild_of_trade, sc := defScope (topS 8), blk := none, fns := [("ways_to_hall", 2, f_ways_to_hall), ("is_fit", 2, f_is_fit), ("rank_of", 3, f_rank_of)], gls := [("LIKED", (.int 6))], own := [], wf := wFuel, fks := [], ro := false, lam := true }
theorem chk_guild_of_trade : cBody ctx_guild_of_trade (defBody (topS 8)) = some den_guild_of_trade := by kernel_rfl
theorem sc_guild_of_trade : FnScope N_guild_of_trade ["trade"] (defScope (topS 8)) := ⟨rfl, rfl, rfl, by decide +kernel, rfl, by decide +kernel, by decide +kernel⟩
def N_l_cell : List Str := ["script", "k"]
def ctx_l_cell : PF.Ctx := { N := N_l_cell, sc := defScope (topS 10), blk := none, fns := [], gls := [], own := [], wf := wFuel, fks := [], ro := false }
theorem chk_l_cell : cBody ctx_l_cell (defBody (topS 10)) = some den_l_cell := by kernel_rfl
theorem sc_l_cell : FnScope N_l_cell ["script", "k"] (defScope (topS 10)) := ⟨rfl, rfl, rfl, by decide +kernel, rfl, by decide +kernel, by decide +kernel⟩
def N_l_draws : List Str := ["script", "k", "many", "base", "primes", "cell", "rest", "row", "j", "mash"]
def ctx_l_draws : PF.Ctx := { N := N_l_draws, sc := defScope (topS 11), blk := none, fns := [("_law_cell", 2, f_l_cell)], gls := [], own := [7], wf := wFuel, fks := [], ro := false }
theorem chk_l_draws : cBody ctx_l_draws (defBody (topS 11)) = some den_l_draws := by kernel_rfl
theorem sc_l_draws : FnScope N_l_draws ["script", "k", "many", "base"] (defScope (topS 11)) := ⟨rfl, rfl, rfl, by decide +kernel, rfl, by decide +kernel, by decide +kernel⟩
def N_l_trade : List Str := ["script", "at", "most", "draws", "many", "left", "ranks", "one", "sales", "peers", "other", "k", "draw", "pair", "down"]
def ctx_l_trade : PF.Ctx := { N := N_l_trade, sc := defScope (topS 12), blk := none, fns := [("_law_draws", 4, f_l_draws)], gls := [], own := [5, 8, 9], wf := wFuel, fks := [], ro := false }
theorem chk_l_trade : cBody ctx_l_trade (defBody (topS 12)) = some den_l_trade := by kernel_rfl
theorem sc_l_trade : FnScope N_l_trade ["script", "at", "most"] (defScope (topS 12)) := ⟨rfl, rfl, rfl, by decide +kernel, rfl, by decide +kernel, by decide +kernel⟩
def N_l_all : List Str := ["many", "roads", "house", "found", "row", "way", "near", "other"]
def ctx_l_all : PF.Ctx := { N := N_l_all, sc := defScope (topS 13), blk := none, fns := [], gls := [], own := [4], wf := wFuel, fks := [], ro := false }
theorem chk_l_all : cBody ctx_l_all (defBody (topS 13)) = some den_l_all_2 := by kernel_rfl
theorem sc_l_all : FnScope N_l_all ["many", "roads", "house"] (defScope (topS 13)) := ⟨rfl, rfl, rfl, by decide +kernel, rfl, by decide +kernel, by decide +kernel⟩
def N_l_sort : List Str := ["trade", "one", "other"]
def ctx_l_sort : PF.Ctx := { N := N_l_sort, sc := defScope (topS 14), blk := none, fns := [], gls := [], own := [], wf := wFuel, fks := [], ro := false }
theorem chk_l_sort : cBody ctx_l_sort (defBody (topS 14)) = some den_l_sort := by kernel_rfl
theorem sc_l_sort : FnScope N_l_sort ["trade", "one", "other"] (defScope (topS 14)) := ⟨rfl, rfl, rfl, by decide +kernel, rfl, by decide +kernel, by decide +kernel⟩
def N_l_fit : List Str := ["trade", "way", "climbing", "one", "other", "sort"]
def ctx_l_fit : PF.Ctx := { N := N_l_fit, sc := defScope (topS 15), blk := none, fns := [("_law_sort", 3, f_l_sort)], gls := [], own := [], wf := wFuel, fks := [], ro := false }
theorem chk_l_fit : cBody ctx_l_fit (defBody (topS 15)) = some den_l_fit := by kernel_rfl
theorem sc_l_fit : FnScope N_l_fit ["trade", "way"] (defScope (topS 15)) := ⟨rfl, rfl, rfl, by decide +kernel, rfl, by decide +kernel, by decide +kernel⟩
def N_law : List Str := ["script", "at", "trade", "roads", "likes", "house", "ways", "ranked", "pair", "way", "row"]
def den_law : DenS :=
  (dSeq (dFor (dItems (dTup [(dC (.int 0)), (dC (.int 2))])) (bName 1) (dSeq (dSet 2 (dCall f_l_trade [(dVar 0), (dVar 1), (d2 aSub (dC (.int 6)) (d2 aDiv (dVarB 1) (dC (.int 2))))]))
    (dSeq (dSet 3 (dCall bSorted [(dComp (dItems (d2 aAdd (d2 aIx (dVarB 2) (dC (.int 1))) (d2 aIx (dVarB 2) (dC (.int 2))))) [8] (bName 8) (fun _ => some true) (dTup [(dCall bMin [(dVarB 8)]), (dCall bMax [(dVarB 8)])]))]))
    (dSeq (dOwn 4 (dLst []))
    (dSeq (dFor (dRg (dC (.int 1)) (d2 aIx (dVarB 2) (dC (.int 0)))) (bName 5) (dSeq (dSet 6 (dComp (dItems (dCall f_l_all_2 [(d2 aIx (dVarB 2) (dC (.int 0))), (dVar 3), (dVar 5)])) [9] (bName 9) (dT (dCall f_l_fit [(dVar 2), (dVar 9)])) (dVar 9)))
    (dSeq (dSet 7 (dCall bSorted [(dComp (dItems (dVarB 6)) [9] (bName 9) (fun _ => some true) (dTup [(dCall f_l_sort [(dVar 2), (d2 aIx (dVarB 9) (dC (.int 0))), (d2 aIx (dVarB 9) (dC (.int 1)))]), (dCall bLen [(dVarB 9)]), (dVar 9)]))]))
    (dAppend 4 (dCall bTuple [(dComp (dItems (dCut (dVarB 7) none (some (dC (.int 6))))) [10] (bName 10) (fun _ => some true) (d2 aIx (dVarB 10) (dC (.int 2))))])))))
    (dIfS (d2 (aCmp .NotEq) (dCall f_guild_of_trade [(dVar 2)]) (dTup [(d2 aIx (dVarB 2) (dC (.int 0))), (dCall bTuple [(dVarB 3)]), (dCall bTuple [(dVarB 4)])])) (dRet (dC (.bool false))) (fun ρ => some (.next ρ))))))))
    (dRet (d2 (aCmp .Eq) (dC (.int 6)) (dC (.int 6)))))
def f_law : List D → Option D := runF 11 den_law
def ctx_law : PF.Ctx := { N := N_law, sc := defScope (topS 16), blk := none, fns := [("_law_trade", 3, f_l_trade), ("_law_all", 3, f_l_all_2), ("_law_fit", 2, f_l_fit), ("_law_sort", 3, f_l_sort), ("guild_of_trade", 1, f_guild_of_trade)], gls := [("LIKED", (.int 6))], own := [4], wf := wFuel, fks := [], ro := false }
theorem chk_law : cBody ctx_law (defBody (topS 16)) = some den_law := by kernel_rfl
theorem sc_law : FnScope N_law ["script"] (defScope (topS 16)) := ⟨rfl, rfl, rfl, by decide +kernel, rfl, by decide +kernel, by decide +kernel⟩
end K42
namespace K42
open PySem PySem.Spec PyProof.Rows L2 PF LW
theorem facts {P : Program} {w : World} {K : PySem.W.Frag} {h : Heap} {mg : Str → Option Value} {f : Addr} (X : K.In h) (G : h.Ns mainGlobals mg) (hfa : mg ("law" : Str) = some (.ref f)) (cx : He.SaysD hFa hFn K ∧ (hEx.all fun c => c K) = true) :
    ∃ fd : FuncData, (∀ (s : Shared) (v : Value), BindsTo s fd ⟨[v], []⟩ [("script", v)]) ∧ ∀ base : Heap, K.In base → base.Ns mainGlobals mg → (∀ p ∈ hTf.map fun n => lamAd K n, LamX.TabB base mg p.1 p.2) → FnOk P w K mg base CX0 7 f fd ["script"] (spF K 1 f_law) := by
  obtain ⟨c, hx⟩ := cx
  obtain ⟨fd_joined, F_joined⟩ := c.def_ 0 (d := dd_joined) rfl
  have g_joined := He.glo_ok X G (c.fact 0 (f := .glo "joined") rfl)
  have b_joined : Binds K fd_joined ["roads", "one", "other"] [] := F_joined.bindsN fun _ _ _ _ _ _ us hl => match us, hl with | [_, _, _], _ => rfl
  obtain ⟨fd_ways_to_hall, F_ways_to_hall⟩ := c.def_ 1 (d := dd_ways_to_hall) rfl
  have g_ways_to_hall := He.glo_ok X G (c.fact 1 (f := .glo "ways_to_hall") rfl)
  have b_ways_to_hall : Binds K fd_ways_to_hall ["many", "roads"] [] := F_ways_to_hall.bindsN fun _ _ _ _ _ _ us hl => match us, hl with | [_, _], _ => rfl
  obtain ⟨fd_rank_of, F_rank_of⟩ := c.def_ 2 (d := dd_rank_of) rfl
  have g_rank_of := He.glo_ok X G (c.fact 2 (f := .glo "rank_of") rfl)
  have b_rank_of : Binds K fd_rank_of ["trade", "one", "other"] [] := F_rank_of.bindsN fun _ _ _ _ _ _ us hl => match us, hl with | [_, _, _], _ => rfl
  obtain ⟨fd_is_fit, F_is_fit⟩ := c.def_ 3 (d := dd_is_fit) rfl
  have g_is_fit := He.glo_ok X G (c.fact 3 (f := .glo "is_fit") rfl)
  have b_is_fit : Binds K fd_is_fit ["trade", "way"] [] := F_is_fit.bindsN fun _ _ _ _ _ _ us hl => match us, hl with | [_, _], _ => rfl
  obtain ⟨fd_guild_of_trade, F_guild_of_trade⟩ := c.def_ 4 (d := dd_guild_of_trade) rfl
  have g_guild_of_trade := He.glo_ok X G (c.fact 4 (f := .glo "guild_of_trade") rfl)
  have b_guild_of_trade : Binds K fd_guild_of_trade ["trade"] [] := F_guild_of_trade.bindsN fun _ _ _ _ _ _ us hl => match us, hl with | [_], _ => rfl
  obtain ⟨fd_l_cell, F_l_cell⟩ := c.def_ 5 (d := dd_l_cell) rfl
  have g_l_cell := He.glo_ok X G (c.fact 5 (f := .glo "_law_cell") rfl)
  have b_l_cell : Binds K fd_l_cell ["script", "k"] [] := F_l_cell.bindsN fun _ _ _ _ _ _ us hl => match us, hl with | [_, _], _ => rfl
  obtain ⟨fd_l_draws, F_l_draws⟩ := c.def_ 6 (d := dd_l_draws) rfl
  have g_l_draws := He.glo_ok X G (c.fact 6 (f := .glo "_law_draws") rfl)
  have b_l_draws : Binds K fd_l_draws ["script", "k", "many", "base"] [] := F_l_draws.bindsN fun _ _ _ _ _ _ us hl => match us, hl with | [_, _, _, _], _ => rfl
  obtain ⟨fd_l_trade, F_l_trade⟩ := c.def_ 7 (d := dd_l_trade) rfl
  have g_l_trade := He.glo_ok X G (c.fact 7 (f := .glo "_law_trade") rfl)
  have b_l_trade : Binds K fd_l_trade ["script", "at", "most"] [] := F_l_trade.bindsN fun _ _ _ _ _ _ us hl => match us, hl with | [_, _, _], _ => rfl
  obtain ⟨fd_l_all, F_l_all⟩ := c.def_ 8 (d := dd_l_all) rfl
  have g_l_all := He.glo_ok X G (c.fact 8 (f := .glo "_law_all") rfl)
  have b_l_all : Binds K fd_l_all ["many", "roads", "house"] [] := F_l_all.bindsN fun _ _ _ _ _ _ us hl => match us, hl with | [_, _, _], _ => rfl
  obtain ⟨fd_l_sort, F_l_sort⟩ := c.def_ 9 (d := dd_l_sort) rfl
  have g_l_sort := He.glo_ok X G (c.fact 9 (f := .glo "_law_sort") rfl)
  have b_l_sort : Binds K fd_l_sort ["trade", "one", "other"] [] := F_l_sort.bindsN fun _ _ _ _ _ _ us hl => match us, hl with | [_, _, _], _ => rfl
  obtain ⟨fd_l_fit, F_l_fit⟩ := c.def_ 10 (d := dd_l_fit) rfl
  have g_l_fit := He.glo_ok X G (c.fact 10 (f := .glo "_law_fit") rfl)
  have b_l_fit : Binds K fd_l_fit ["trade", "way"] [] := F_l_fit.bindsN fun _ _ _ _ _ _ us hl => match us, hl with | [_, _], _ => rfl
  obtain ⟨fd_law, F_law⟩ := c.def_ 11 (d := dd_law) rfl
  have g_law := He.glo_ok X G (c.fact 11 (f := .glo "law") rfl)
  have b_law : Binds K fd_law ["script"] [] := F_law.bindsN fun _ _ _ _ _ _ us hl => match us, hl with | [_], _ => rfl
  have hbl : ∀ x ∈ bltNames, mg x = none := fun x hx => He.free_ok X G (c.facts ((List.mem_append_right _ (List.mem_map_of_mem hx))))
  obtain ⟨t_LIKED, m_LIKED⟩ := He.int_ok X G (c.fact 12 (f := He.Fa.int "LIKED" (6)) rfl)
  have e := hfa.symm.trans g_law
  cases e
  have bA := FunD.bindsA (ps := ["script"]) F_law fun _ _ _ _ _ _ us hl => match us, hl with | [_], _ => rfl
  refine ⟨fd_law, fun s v => bA s [v] rfl, fun base _ _ hTb => ?_⟩
  have ld_guild_of_trade : LamD K mg base "guild_of_trade" (He.fAd K ("guild_of_trade", none)) := lamD_of (lam0 hx) (List.mem_of_getElem? (i := 0) rfl) (hTb _ (List.mem_of_getElem? (i := 0) rfl))
  have gl_joined : Glob mg ctx_joined.gls K := ⟨hbl, fun x d h => by
    cases h⟩
  have hf_joined : ∀ y n g, ctx_joined.fns.lookup y = some (n, g) → Av P w K mg base 0 y n g := fun y n g h => by
    cases h
  have hk_joined : ∀ y ks n o g, (y, ks, n, o, g) ∈ ctx_joined.fks → AvK P w K mg base 0 y ks n o g := fun y ks n o g h => by
    cases h
  have av_joined : Av P w K mg base 1 "joined" 3 f_joined := av_def F_joined sc_joined rfl rfl rfl chk_joined hf_joined hk_joined gl_joined g_joined b_joined
  have gl_ways_to_hall : Glob mg ctx_ways_to_hall.gls K := ⟨hbl, fun x d h => by
    cases h⟩
  have hf_ways_to_hall : ∀ y n g, ctx_ways_to_hall.fns.lookup y = some (n, g) → Av P w K mg base 1 y n g := fun y n g h => by
    refine lookup1 h (fun e1 e2 e3 => ?_) (fun h => ?_)
    · subst e1 e2 e3; exact av_joined.mono (by decide)
    cases h
  have hk_ways_to_hall : ∀ y ks n o g, (y, ks, n, o, g) ∈ ctx_ways_to_hall.fks → AvK P w K mg base 1 y ks n o g := fun y ks n o g h => by
    cases h
  have av_ways_to_hall : Av P w K mg base 2 "ways_to_hall" 2 f_ways_to_hall := av_def F_ways_to_hall sc_ways_to_hall rfl rfl rfl chk_ways_to_hall hf_ways_to_hall hk_ways_to_hall gl_ways_to_hall g_ways_to_hall b_ways_to_hall
  have gl_rank_of : Glob mg ctx_rank_of.gls K := ⟨hbl, fun x d h => by
    cases h⟩
  have hf_rank_of : ∀ y n g, ctx_rank_of.fns.lookup y = some (n, g) → Av P w K mg base 0 y n g := fun y n g h => by
    cases h
  have hk_rank_of : ∀ y ks n o g, (y, ks, n, o, g) ∈ ctx_rank_of.fks → AvK P w K mg base 0 y ks n o g := fun y ks n o g h => by
    cases h
  have av_rank_of : Av P w K mg base 1 "rank_of" 3 f_rank_of := av_def F_rank_of sc_rank_of rfl rfl rfl chk_rank_of hf_rank_of hk_rank_of gl_rank_of g_rank_of b_rank_of
  have gl_is_fit : Glob mg ctx_is_fit.gls K := ⟨hbl, fun x d h => by
    cases h⟩
  have hf_is_fit : ∀ y n g, ctx_is_fit.fns.lookup y = some (n, g) → Av P w K mg base 1 y n g := fun y n g h => by
    refine lookup1 h (fun e1 e2 e3 => ?_) (fun h => ?_)
    · subst e1 e2 e3; exact av_rank_of.mono (by decide)
    cases h
  have hk_is_fit : ∀ y ks n o g, (y, ks, n, o, g) ∈ ctx_is_fit.fks → AvK P w K mg base 1 y ks n o g := fun y ks n o g h => by
    cases h
  have av_is_fit : Av P w K mg base 2 "is_fit" 2 f_is_fit := av_def F_is_fit sc_is_fit rfl rfl rfl chk_is_fit hf_is_fit hk_is_fit gl_is_fit g_is_fit b_is_fit
  have gl_guild_of_trade : Glob mg ctx_guild_of_trade.gls K := ⟨hbl, fun x d h => by
    refine glook h (fun e1 e2 => ?_) (fun h => ?_)
    · subst e1 e2; exact ⟨(L2.V.int 6), _, m_LIKED, ⟨_, rfl⟩, fun _ => .int _, fun _ z => nomatch z⟩
    cases h⟩
  have hf_guild_of_trade : ∀ y n g, ctx_guild_of_trade.fns.lookup y = some (n, g) → Av P w K mg base 2 y n g := fun y n g h => by
    refine lookup1 h (fun e1 e2 e3 => ?_) (fun h => ?_)
    · subst e1 e2 e3; exact av_ways_to_hall.mono (by decide)
    refine lookup1 h (fun e1 e2 e3 => ?_) (fun h => ?_)
    · subst e1 e2 e3; exact av_is_fit.mono (by decide)
    refine lookup1 h (fun e1 e2 e3 => ?_) (fun h => ?_)
    · subst e1 e2 e3; exact av_rank_of.mono (by decide)
    cases h
  have hk_guild_of_trade : ∀ y ks n o g, (y, ks, n, o, g) ∈ ctx_guild_of_trade.fks → AvK P w K mg base 2 y ks n o g := fun y ks n o g h => by
    cases h
  have av_guild_of_trade : Av P w K mg base 6 "guild_of_trade" 1 f_guild_of_trade := ⟨_, fd_guild_of_trade, _, g_guild_of_trade, F_guild_of_trade.kp, b_guild_of_trade, fnL_def F_guild_of_trade sc_guild_of_trade rfl rfl rfl chk_guild_of_trade hf_guild_of_trade hk_guild_of_trade gl_guild_of_trade ld_guild_of_trade⟩
  have gl_l_cell : Glob mg ctx_l_cell.gls K := ⟨hbl, fun x d h => by
    cases h⟩
  have hf_l_cell : ∀ y n g, ctx_l_cell.fns.lookup y = some (n, g) → Av P w K mg base 0 y n g := fun y n g h => by
    cases h
  have hk_l_cell : ∀ y ks n o g, (y, ks, n, o, g) ∈ ctx_l_cell.fks → AvK P w K mg base 0 y ks n o g := fun y ks n o g h => by
    cases h
  have av_l_cell : Av P w K mg base 1 "_law_cell" 2 f_l_cell := av_def F_l_cell sc_l_cell rfl rfl rfl chk_l_cell hf_l_cell hk_l_cell gl_l_cell g_l_cell b_l_cell
  have gl_l_draws : Glob mg ctx_l_draws.gls K := ⟨hbl, fun x d h => by
    cases h⟩
  have hf_l_draws : ∀ y n g, ctx_l_draws.fns.lookup y = some (n, g) → Av P w K mg base 1 y n g := fun y n g h => by
    refine lookup1 h (fun e1 e2 e3 => ?_) (fun h => ?_)
    · subst e1 e2 e3; exact av_l_cell.mono (by decide)
    cases h
  have hk_l_draws : ∀ y ks n o g, (y, ks, n, o, g) ∈ ctx_l_draws.fks → AvK P w K mg base 1 y ks n o g := fun y ks n o g h => by
    cases h
  have av_l_draws : Av P w K mg base 2 "_law_draws" 4 f_l_draws := av_def F_l_draws sc_l_draws rfl rfl rfl chk_l_draws hf_l_draws hk_l_draws gl_l_draws g_l_draws b_l_draws
  have gl_l_trade : Glob mg ctx_l_trade.gls K := ⟨hbl, fun x d h => by
    cases h⟩
  have hf_l_trade : ∀ y n g, ctx_l_trade.fns.lookup y = some (n, g) → Av P w K mg base 2 y n g := fun y n g h => by
    refine lookup1 h (fun e1 e2 e3 => ?_) (fun h => ?_)
    · subst e1 e2 e3; exact av_l_draws.mono (by decide)
    cases h
  have hk_l_trade : ∀ y ks n o g, (y, ks, n, o, g) ∈ ctx_l_trade.fks → AvK P w K mg base 2 y ks n o g := fun y ks n o g h => by
    cases h
  have av_l_trade : Av P w K mg base 3 "_law_trade" 3 f_l_trade := av_def F_l_trade sc_l_trade rfl rfl rfl chk_l_trade hf_l_trade hk_l_trade gl_l_trade g_l_trade b_l_trade
  have gl_l_all : Glob mg ctx_l_all.gls K := ⟨hbl, fun x d h => by
    cases h⟩
  have hf_l_all : ∀ y n g, ctx_l_all.fns.lookup y = some (n, g) → Av P w K mg base 0 y n g := fun y n g h => by
    cases h
  have hk_l_all : ∀ y ks n o g, (y, ks, n, o, g) ∈ ctx_l_all.fks → AvK P w K mg base 0 y ks n o g := fun y ks n o g h => by
    cases h
  have av_l_all : Av P w K mg base 1 "_law_all" 3 f_l_all_2 := av_def F_l_all sc_l_all rfl rfl rfl chk_l_all hf_l_all hk_l_all gl_l_all g_l_all b_l_all
  have gl_l_sort : Glob mg ctx_l_sort.gls K := ⟨hbl, fun x d h => by
    cases h⟩
  have hf_l_sort : ∀ y n g, ctx_l_sort.fns.lookup y = some (n, g) → Av P w K mg base 0 y n g := fun y n g h => by
    cases h
  have hk_l_sort : ∀ y ks n o g, (y, ks, n, o, g) ∈ ctx_l_sort.fks → AvK P w K mg base 0 y ks n o g := fun y ks n o g h => by
    cases h
  have av_l_sort : Av P w K mg base 1 "_law_sort" 3 f_l_sort := av_def F_l_sort sc_l_sort rfl rfl rfl chk_l_sort hf_l_sort hk_l_sort gl_l_sort g_l_sort b_l_sort
  have gl_l_fit : Glob mg ctx_l_fit.gls K := ⟨hbl, fun x d h => by
    cases h⟩
  have hf_l_fit : ∀ y n g, ctx_l_fit.fns.lookup y = some (n, g) → Av P w K mg base 1 y n g := fun y n g h => by
    refine lookup1 h (fun e1 e2 e3 => ?_) (fun h => ?_)
    · subst e1 e2 e3; exact av_l_sort.mono (by decide)
    cases h
  have hk_l_fit : ∀ y ks n o g, (y, ks, n, o, g) ∈ ctx_l_fit.fks → AvK P w K mg base 1 y ks n o g := fun y ks n o g h => by
    cases h
  have av_l_fit : Av P w K mg base 2 "_law_fit" 2 f_l_fit := av_def F_l_fit sc_l_fit rfl rfl rfl chk_l_fit hf_l_fit hk_l_fit gl_l_fit g_l_fit b_l_fit
  have gl_law : Glob mg ctx_law.gls K := ⟨hbl, fun x d h => by
    refine glook h (fun e1 e2 => ?_) (fun h => ?_)
    · subst e1 e2; exact ⟨(L2.V.int 6), _, m_LIKED, ⟨_, rfl⟩, fun _ => .int _, fun _ z => nomatch z⟩
    cases h⟩
  have hf_law : ∀ y n g, ctx_law.fns.lookup y = some (n, g) → Av P w K mg base 6 y n g := fun y n g h => by
    refine lookup1 h (fun e1 e2 e3 => ?_) (fun h => ?_)
    · subst e1 e2 e3; exact av_l_trade.mono (by decide)
    refine lookup1 h (fun e1 e2 e3 => ?_) (fun h => ?_)
    · subst e1 e2 e3; exact av_l_all.mono (by decide)
    refine lookup1 h (fun e1 e2 e3 => ?_) (fun h => ?_)
    · subst e1 e2 e3; exact av_l_fit.mono (by decide)
    refine lookup1 h (fun e1 e2 e3 => ?_) (fun h => ?_)
    · subst e1 e2 e3; exact av_l_sort.mono (by decide)
    refine lookup1 h (fun e1 e2 e3 => ?_) (fun h => ?_)
    · subst e1 e2 e3; exact av_guild_of_trade.mono (by decide)
    cases h
  have hk_law : ∀ y ks n o g, (y, ks, n, o, g) ∈ ctx_law.fks → AvK P w K mg base 6 y ks n o g := fun y ks n o g h => by
    cases h
  exact fn_def F_law sc_law rfl rfl rfl chk_law hf_law hk_law gl_law
end K42
namespace K42
open PySem PySem.Spec PyProof.Rows L2 PF LW
theorem main (ns : List Int) (_ : ns.length ≤ 63) : f_law [scrD ns] = some (.bool true) := by
  refine W_eq (W_run ?_)
  simp only [den_law, ex_all]
  simp only [↓ev_all, ↓eg]
  refine W_forL (fun r ρ => (∀ d ∈ r, ∃ n : Nat, d = .int n ∧ n ≤ 2) ∧ ∃ x1 x2 x3 x4 x5 x6 x7 x8 x9 x10 : Option SV, ρ = [some (.val (scrD ns)), x1, x2, x3, x4, x5, x6, x7, x8, x9, x10]) ?zEnd ?zStep _ _ ⟨?zIn, _, _, _, _, _, _, _, _, _, _, rfl⟩
  case zIn =>
    intro d hd
    simp only [List.mem_cons, List.not_mem_nil, or_false] at hd
    rcases hd with rfl | rfl
    · exact ⟨0, rfl, by omega⟩
    · exact ⟨2, rfl, by omega⟩
  case zEnd =>
    rintro ρ ⟨-, x1, x2, x3, x4, x5, x6, x7, x8, x9, x10, rfl⟩
    simp only [↓ev_all, ↓eg]
    simp
  case zStep =>
    rintro x r ρ ⟨hr, x1, x2, x3, x4, x5, x6, x7, x8, x9, x10, rfl⟩
    obtain ⟨att, rfl, ha⟩ := hr x (List.mem_cons_self ..)
    have hr' : ∀ d ∈ r, ∃ n : Nat, d = .int n ∧ n ≤ 2 := fun d hd => hr d (List.mem_cons_of_mem _ hd)
    try simp only [↓ev_all, ↓eg]
    refine ⟨by decide, ?_⟩
    have e6 : (6 : Int) - (att : Int) / 2 = ((6 - att / 2 : Nat) : Int) := by omega
    rw [e6]
    refine (trade_ok ns att (6 - att / 2) (by omega) (by omega) (by omega)).mono fun d ⟨many, ss, ps, hd, g⟩ => ?_
    subst hd
    have hlo := g.lo
    have hhi := g.hi
    have hf := few_of g (by omega)
    obtain ⟨d0, hd0, WS, hnd, hmem, rfl⟩ := gtrade_ok g (by omega)
    have hlen : ((ss ++ ps).map nrm).length ≤ 21 := by simp; omega
    have htr : (trR ss ps).length ≤ 21 := by
      rw [show (trR ss ps).length = _ from (srt_perm (lt := rlt) ((ss ++ ps).map nrm)).length_eq]
      exact hlen
    try simp only [↓ev_all, ↓eg, ↓eT]
    refine W_addR ss ps _ (by omega) ?_
    try simp only [↓ev_all, ↓eg, ↓eT]
    refine W.of (comp_typed _ rD (fun p => rD (nrm p)) fun p hp => ?_) ?_
    · simp only [wipeE, List.set_cons_succ, List.set_cons_zero]
      simp only [↓ev_all, ↓eg, ↓eT, mm_rD]
      rfl
    have e : List.map (fun p => rD (nrm p)) (ss ++ ps) = ((ss ++ ps).map nrm).map rD := by rw [List.map_map]; rfl
    rw [e]
    try simp only [↓ev_all, ↓eg, ↓eT]
    refine srtR_ok (by omega) _ ?_
    have etr : srt rlt ((ss ++ ps).map nrm) = trR ss ps := rfl
    rw [etr]
    try simp only [↓ev_all, ↓eg, ↓eT]
    refine ⟨rg_ok (by omega) (by omega) (by omega) (by omega), ?_⟩
    refine W_forR (fun i ρ => ∃ x5 x6 x7 x8 x9 x10 : Option SV, ρ = [some (.val (scrD ns)), some (.val (.int att)), some (.val (tD many ss ps)), some (.val (.list ((trR ss ps).map rD))), some (.own ((List.range i).map fun k => wsD (((rnkd ss WS).filter (ofH (1 + k))).take 6))), x5, x6, x7, x8, x9, x10]) ⟨_, _, _, _, _, _, rfl⟩ ?yEnd ?yStep
    case yEnd =>
      rintro ρ ⟨x5, x6, x7, x8, x9, x10, rfl⟩
      try simp only [↓ev_all, ↓eg, ↓eT]
      refine W.of hd0 ?_
      have ez0 : ((many : Int) - 1).toNat = many - 1 := by omega
      rw [ez0]
      have hp : pl (trG many ss ps WS) 4 = true := pl_tup fun d hd => by
        simp only [List.mem_cons, List.not_mem_nil, or_false] at hd
        rcases hd with rfl | rfl | rfl
        · exact pl_int _ _
        · exact pl_tup fun d hd => rsD_pl hd 1
        · refine pl_tup fun d hd => ?_
          obtain ⟨k, _, rfl⟩ := List.mem_map.mp hd
          refine pl_tup fun d hd => ?_
          obtain ⟨w, _, rfl⟩ := List.mem_map.mp hd
          exact wD_pl w 0
      have eq : PyData.tuple [.int (many : Nat), .tuple ((trR ss ps).map rD), .tuple ((List.range (many - 1)).map fun k => wsD (((rnkd ss WS).filter (ofH (1 + k))).take 6))] = trG many ss ps WS := rfl
      rw [eq, W_neP 4 4 (by omega) (by omega) hp hp]
      simp only [not_true, decide_false, ↓ev_all]
      try simp only [Lp_n]
      first
        | exact ⟨hr', _, _, _, _, _, _, _, _, _, _, rfl⟩
        | exact ⟨fun z => z.elim, fun _ => ⟨hr', _, _, _, _, _, _, _, _, _, _, rfl⟩⟩
    case yStep =>
      rintro i ρ hi ⟨x5, x6, x7, x8, x9, x10, rfl⟩
      try simp only [↓ev_all, ↓eg, ↓eT]
      have ei : (1 + (i : Int)) = ((1 + i : Nat) : Int) := by omega
      rw [ei]
      refine (all_ok (many := many) (h := 1 + i) (rs := trR ss ps) (by omega) (by omega) (by omega) (fun r Q => W_inRL r _ Q)).mono fun d ⟨ws, hd, hnw, hl, hw⟩ => ?_
      subst hd
      try simp only [↓ev_all, ↓eg, ↓eT]
      refine W.of (comp_typed_if _ wD wD (fitB ss) fun w hw' => ?_) ?_
      · simp only [wipeE, List.set_cons_succ, List.set_cons_zero]
        try simp only [↓ev_all, ↓eg, ↓eT]
        refine W.of (lfit_ok many ss ps w) ?_
        try simp only [↓ev_all, ↓eg, ↓eT]
        exact ⟨by first | rfl | trivial, fun _ => by first | rfl | trivial⟩
      have hfl : ∀ w ∈ ws.filter (fitB ss), 2 ≤ w.length := fun w h => ((head_of (by omega)).mp ((hw w).mp (List.mem_filter.mp h).1)).1.2
      have hfn : (ws.filter (fitB ss)).length ≤ 262144 := Nat.le_trans (List.length_filter_le _ _) hl
      try simp only [↓ev_all, ↓eg, ↓eT]
      refine W.of (comp_typed _ wD (fun w => t3D (key3 ss w)) fun w hw' => ?_) ?_
      · have h2 := hfl w hw'
        simp only [wipeE, List.set_cons_succ, List.set_cons_zero]
        try simp only [↓ev_all, ↓eg, ↓eT]
        refine W.of (at_0 h2) ?_
        try simp only [↓ev_all, ↓eg, ↓eT]
        refine W.of (at_1 h2) ?_
        try simp only [↓ev_all, ↓eg, ↓eT]
        refine W.of (lsort_ok many ss ps _ _) ?_
        try simp only [↓ev_all, ↓eg, ↓eT, ↓W_lenW]
        rfl
      have e3 : (ws.filter (fitB ss)).map (fun w => t3D (key3 ss w)) = ((ws.filter (fitB ss)).map (key3 ss)).map t3D := by rw [List.map_map]; rfl
      rw [e3]
      try simp only [↓ev_all, ↓eg, ↓eT]
      rw [W_srtL, enc3.srt]
      refine ⟨enc3.sortOk (n := 2) (fun a => t3D_pl a 0) (by omega) _ (.inl fun r _ => rfl) (by rw [List.length_map]; show _ ≤ 16777216; omega), ?_⟩
      try simp only [↓ev_all, ↓eg, ↓eT]
      have ec := cut_to ((srt lt3 ((ws.filter (fitB ss)).map (key3 ss))).map t3D) 6
      rw [show ((6 : Nat) : Int) = 6 from rfl, ← List.map_take] at ec
      rw [ec]
      refine W.of (comp_typed _ t3D (fun t => wD t.2.2) fun t ht => ?_) ?_
      · simp only [wipeE, List.set_cons_succ, List.set_cons_zero]
        have et3 : t3D t = .tuple [.int (t.1 : Nat), .int (t.2.1 : Nat), wD t.2.2] := rfl
        rw [et3]
        try simp only [↓ev_all, ↓eg, ↓eT]
        all_goals (try rfl)
      have rq := ranked_eq (ss := ss) (h := 1 + i) (by omega) hnd hmem hnw hw
      have ew : (List.take 6 (srt lt3 ((ws.filter (fitB ss)).map (key3 ss)))).map (fun t : T3 => wD t.2.2) = (((rnkd ss WS).filter (ofH (1 + i))).take 6).map wD := by
        show _ = (((srt (kLt ss) (WS.filter (fitB ss))).filter (ofH (1 + i))).take 6).map wD
        rw [← rq, ← List.map_take, List.map_map]
        rfl
      rw [ew]
      try simp only [↓ev_all, ↓eg, ↓eT]
      refine ⟨by rw [List.length_map, List.length_range]; show _ < 16777216; omega, ?_⟩
      have es : (List.range (i + 1)).map (fun k => wsD (((rnkd ss WS).filter (ofH (1 + k))).take 6)) = (List.range i).map (fun k => wsD (((rnkd ss WS).filter (ofH (1 + k))).take 6)) ++ [PyData.tuple ((((rnkd ss WS).filter (ofH (1 + i))).take 6).map wD)] := by
        rw [List.range_succ, List.map_append]
        rfl
      rw [es]
      exact ⟨_, _, _, _, _, _, rfl⟩
end K42
open PySem PySem.W PySem.Calls PyProof.Rows
set_option maxRecDepth 100000 in
set_option maxHeartbeats 0 in
theorem PySem.Challenge.cw_likedways_k42_guilds_of_trades_holds : PySem.Challenge.rw_likedways_k42_guilds_of_trades.Holds := by
  w_on; o_law
  refine HandSHeadRun.head_any (r := OpenLaw.row PySem.Challenge.rw_likedways_k42_guilds_of_trades) (q := view (OpenLaw.row PySem.Challenge.rw_likedways_k42_guilds_of_trades).prog [16]) (H := K42.hk) (ob := K42.ob) (M := 20000) (loose := K42.others) (d := HandSHeadRun.topDef (OpenLaw.row PySem.Challenge.rw_likedways_k42_guilds_of_trades).prog 16) (kwd := []) K42.ob_eq
    (by kernel_rfl) (fun s => by kernel_rfl) K42.run (by kernel_rfl) (by kernel_rfl) (by kernel_rfl) (by rfl) (by first | assumption | decide +kernel) (by decide +kernel) ⟨rfl, rfl, rfl, rfl, rfl, by decide +kernel⟩ ?hw ?hc
  case hw => w_witness2
  case hc =>
    refine LK.walk_ofL (l := PySem.Challenge.rw_likedways_k42_guilds_of_trades) (n := 63) (k := 7) (x := "script") (CX := L2.CX0) rfl (by decide) (by kernel_rfl) ⟨rfl, by decide, by decide⟩ ?F (fun _ _ _ _ z => z)
    intro w mg fa h Y G hmg0
    obtain ⟨K, KX, c⟩ := Y
    have hmg : mg ("law" : PySem.Str) = some (.ref fa) := by
      have e : (HandSHeadRun.topDef (OpenLaw.row PySem.Challenge.rw_likedways_k42_guilds_of_trades).prog 16).name = ("law" : PySem.Str) := by kernel_rfl
      rw [← e]
      exact hmg0
    obtain ⟨fd, hb, hF⟩ := K42.facts (P := (PySem.Challenge.rw_likedways_k42_guilds_of_trades).prog) (w := w) KX G hmg ⟨c.d, c.more⟩
    exact ⟨K, KX, fd, _, PF.spF K 1 K42.f_law, (fun p hp => let ⟨n, hn, e⟩ := List.mem_map.mp hp; e ▸ ⟨(c.tabs n hn).1, (c.tabs n hn).2.1, PySem.W.codeHd_of_K KX (c.tabs n hn).2.2⟩), hb, fun H a ns hl hT hO hS => PF.law_spL (K42.lam0 c.more) (fun n hn => hT _ (List.mem_map.mpr ⟨n, hn, rfl⟩)) hO hS (K42.main ns hl), hF⟩
