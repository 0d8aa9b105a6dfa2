import PyProof.Rows.All
import Wide.All
import OpenK.AllK
import Wide.FinOn
import PySem.Challenge.RW_leaveledger_k43_whole_follows
import HandS.ForMost
import HandS.WordsDict
import KE.KDictKeyed
import HandS.Wide
import HandS.WideBits
import HandS.IsInst
import HandS.TupAny
import HandS.Deep
import HandS.Style
import HandS.Zip
import HandS.More
import KE.GoesMore
import PyProof.StrLawsRepr
import HandS.RaiseMore
import HandS.DictComp
import KE.GoesZip
import KE.GoesEnum
import KE.SortCalls
set_option Elab.async false
set_option linter.all false
set_option maxRecDepth 100000
set_option maxHeartbeats 4000000
namespace DL
open PySem PySem.Spec PyProof.Rows L2
/-! ### dicts whose keys are tuples (to depth 8), below the data level -/
abbrev NK := NestedKey
mutual
/-- the value is the key -/
def KIs (K : PySem.W.Frag) (H : Hp) : NK → V → Prop
  | .none, v => v = .non
  | .num i, v => v = .int i ∨ ∃ b, v = .bl b ∧ i = (if b = true then 1 else 0)
  | .text x, v => v = .str x
  | .tup ks, v => ∃ a vs, v = .ref a ∧ SqT K H a vs ∧ KAll K H ks vs
def KAll (K : PySem.W.Frag) (H : Hp) : List NK → List V → Prop
  | [], vs => vs = []
  | k :: ks, vs => ∃ v r, vs = v :: r ∧ KIs K H k v ∧ KAll K H ks r
end
section
variable {X : Cx} {pins : List (Addr × Obj)} {σ : L2.St} {H : Hp} {s : Shared} {a : Addr}
mutual
theorem kis_heap (I : Inv X pins σ H s) : ∀ (k : NK) {v : V} {u : Value}, KIs X.K H k v → RelV v u → NestedIs s.heap k u
  | .none, _, _, q, r => by cases (show _ = _ from q); cases r; exact .none
  | .num i, _, _, q, r => by
    rcases (show _ ∨ _ from q) with rfl | ⟨b, rfl, e⟩
    · obtain ⟨t, rfl⟩ := r; exact .int _ _
    · cases r; exact .bool e
  | .text x, _, _, q, r => by cases (show _ = _ from q); obtain ⟨t, rfl⟩ := r; exact .text _ _
  | .tup ks, _, _, q, r => by
    obtain ⟨b, vs, rfl, st, qs⟩ := q
    cases r
    obtain ⟨its, rs, ⟨o, e, c, n, d⟩, _⟩ := I.tuple st
    exact .tup e c d (by simpa using kall_heap I ks qs rs)
theorem kall_heap (I : Inv X pins σ H s) : ∀ (ks : List NK) {vs : List V} {us : List Value}, KAll X.K H ks vs → Vals vs us → NestedAll s.heap ks us
  | [], _, _, q, r => by cases (show _ = [] from q); cases r; exact .nil
  | k :: ks, _, _, q, r => by
    obtain ⟨v, w, rfl, q1, q2⟩ := q
    cases r with
    | cons r1 r2 => exact .cons (kis_heap I k q1 r1) (kall_heap I ks q2 r2)
end
end
/-- entries: the key, its value, what stands at it -/
abbrev Ent := NK × V × V
def entOk (w : World) (x : Ent) (e : DictEntry) : Prop := e.hash = x.1.hash w ∧ RelV x.2.1 e.key ∧ RelV x.2.2 e.val
def dphi (w : World) (a : Addr) (xs : List Ent) : Heap → Prop := fun h => ∃ o es ep, h.get? a = some o ∧ o.ExactDict ∧ o.data = .dict es ep ∧ Paired (entOk w) xs es.toList
def dobj (w : World) (a : Addr) (xs : List Ent) : HO := .ext (dphi w a xs)
theorem dphi_stay {w : World} {a : Addr} {xs : List Ent} (h1 h2 : Heap) (x : dphi w a xs h1) (k : ∀ o, h1.get? a = some o → h2.get? a = some o) : dphi w a xs h2 :=
  let ⟨o, es, ep, e, r⟩ := x; ⟨o, es, ep, k o e, r⟩
theorem dobj_ok {P : Program} {w : World} {H : Hp} {h : Heap} {a : Addr} {xs : List Ent} (x : dphi w a xs h) : ObjOk P w H h a (dobj w a xs) :=
  ⟨x, let ⟨o, _, _, e, _⟩ := x; ⟨o, e⟩, dphi_stay⟩
/-- what is asked of the keys that stand: tuples, to depth 8, all different -/
structure NDict (X : Cx) (H : Hp) (a : Addr) (xs : List Ent) : Prop where
  at_ : H a = some (dobj X.w a xs)
  low : (a == sysModules) = false
  len : xs.length ≤ sizeLine
  key : ∀ x ∈ xs, (∃ ks, x.1 = .tup ks) ∧ x.1.depth ≤ 8 ∧ KIs X.K H x.1 x.2.1
  nd : (xs.map (·.1)).Nodup
abbrev nkd (X : Cx) : HeapKind X.prog X.w NK := nestedKind X.prog X.w
def entH (x : Ent) (e : DictEntry) : NK × Addr × Value := (x.1, (match e.key with | .ref b => b | _ => 0), e.val)
section
variable {X : Cx} {pins : List (Addr × Obj)} {σ : L2.St} {H : Hp} {s : Shared} {a : Addr} {xs : List Ent}
theorem ents_of (I : Inv X pins σ H s) : ∀ {xs : List Ent} {es : List DictEntry}, Paired (entOk X.w) xs es → (∀ x ∈ xs, (∃ ks, x.1 = .tup ks) ∧ x.1.depth ≤ 8 ∧ KIs X.K H x.1 x.2.1) →
    ∃ ys : List (NK × Addr × Value), es = ys.map (entryOfKey (nkd X)) ∧ (∀ y ∈ ys, (nkd X).is s.heap y.1 y.2.1) ∧ Paired (fun (x : Ent) (y : NK × Addr × Value) => x.1 = y.1 ∧ x.2.1 = .ref y.2.1 ∧ RelV x.2.2 y.2.2) xs ys
  | _, _, .nil, _ => ⟨[], rfl, by simp, .nil⟩
  | _, _, @Paired.cons _ _ _ x e _ _ ⟨h1, h2, h3⟩ t, k => by
    obtain ⟨ys, e1, e2, e3⟩ := ents_of I t fun y hy => k y (by simp [hy])
    obtain ⟨⟨ks, ek⟩, dp, kk⟩ := k x (by simp)
    have ki := kis_heap I _ kk h2
    have kk' := kk
    rw [ek] at kk'
    obtain ⟨b, vs, ev, _, _⟩ := kk'
    rw [ev] at h2 kk
    have eb : e.key = .ref b := h2
    rw [eb] at ki
    refine ⟨(x.1, b, e.val) :: ys, ?_, ?_, .cons ⟨rfl, ev, h3⟩ e3⟩
    · rw [e1, List.map_cons]
      congr 1
      obtain ⟨eh, ekk, evv⟩ := e
      show DictEntry.mk eh ekk evv = DictEntry.mk (x.1.hash X.w) (.ref b) evv
      rw [show eh = x.1.hash X.w from h1, show ekk = .ref b from eb]
    · intro y hy
      rcases List.mem_cons.mp hy with rfl | hy
      · exact ⟨ki, dp⟩
      · exact e2 y hy
theorem ent_keys {xs : List Ent} {ys : List (NK × Addr × Value)} (p : Paired (fun (x : Ent) (y : NK × Addr × Value) => x.1 = y.1 ∧ x.2.1 = .ref y.2.1 ∧ RelV x.2.2 y.2.2) xs ys) : xs.map (·.1) = ys.map (·.1) := by
  induction p with
  | nil => rfl
  | cons q _ ih => rw [List.map_cons, List.map_cons, ih, q.1]
theorem NDict.heap (I : Inv X pins σ H s) (D : NDict X H a xs) : ∃ ys, s.heap.DictOfH (nkd X) a ys ∧ Paired (fun (x : Ent) (y : NK × Addr × Value) => x.1 = y.1 ∧ x.2.1 = .ref y.2.1 ∧ RelV x.2.2 y.2.2) xs ys := by
  obtain ⟨⟨o, es, ep, e, c, d, p⟩, _⟩ := (show ObjOk X.prog X.w H s.heap a (dobj X.w a xs) from I.hok a _ D.at_)
  obtain ⟨ys, e1, e2, e3⟩ := ents_of I p D.key
  have ek := ent_keys e3
  exact ⟨ys, ⟨o, es, ep, e, c, d, e1, e2, by rw [← ek]; exact D.nd⟩, e3⟩
/-- look-ups -/
def entAt (xs : List Ent) (k : NK) : Option V := (xs.find? fun x => decide (x.1 = k)).map (·.2.2)
theorem ent_val {xs : List Ent} {ys : List (NK × Addr × Value)} (p : Paired (fun (x : Ent) (y : NK × Addr × Value) => x.1 = y.1 ∧ x.2.1 = .ref y.2.1 ∧ RelV x.2.2 y.2.2) xs ys) (k : NK) : RelO (entAt xs k) ((atKey ys k).map (·.2)) := by
  induction p with
  | nil => exact True.intro
  | @cons x y _ _ h t ih =>
    unfold entAt atKey at ih ⊢
    by_cases e : x.1 = k
    · rw [List.find?_cons_of_pos (by simp [e]), List.find?_cons_of_pos (by simp [← h.1, e])]
      exact h.2.2
    · rw [List.find?_cons_of_neg (by simp [e]), List.find?_cons_of_neg (by simp [← h.1, e])]
      exact ih
/-- a key that may be asked -/
structure NKey (X : Cx) (H : Hp) (k : NK) (v : V) : Prop where
  tup : ∃ ks, k = .tup ks
  dep : k.depth ≤ 8
  is_ : KIs X.K H k v
theorem NKey.heap (I : Inv X pins σ H s) {k : NK} {v : V} {u : Value} (q : NKey X H k v) (r : RelV v u) : ∃ b, v = .ref b ∧ u = .ref b ∧ (nkd X).is s.heap k b := by
  obtain ⟨⟨ks, rfl⟩, d, i⟩ := q
  have n := kis_heap I _ i r
  obtain ⟨b, vs, rfl, _⟩ := i
  cases r
  exact ⟨b, rfl, rfl, n, d⟩
theorem nroom {A : Around} (hu : A.units + 64 < cLine) : (nkd X).room A.in1 := by show A.units + 1 + 8 < cLine; omega
variable {k : NK} {v : V} {u : Value} {E : Value → Shared → Prop}
theorem n_getItem {Q : Value → Shared → Prop} {r : V} (hu : X.A.units + 64 < cLine) (I : Inv X pins σ H s) (D : NDict X H a xs) (q : NKey X H k v) (rv : RelV v u) (e : entAt xs k = some r) (h : ∀ w' s', Inv X pins σ H s' → RelV r w' → Q w' s') :
    wpAny (model X.prog X.w) X.A (getItem (.ref a) u) Q E s := by
  obtain ⟨ys, dh, p⟩ := D.heap I
  obtain ⟨b, rfl, rfl, ki⟩ := q.heap I rv
  have rel := ent_val p k
  rw [e] at rel
  cases hz : atKey ys k with
  | none => rw [hz] at rel; exact rel.elim
  | some y =>
    rw [hz] at rel
    exact wpAny_getItem_heap (nroom hu) ki dh hz (h _ _ (I.tok _) rel)
theorem n_in {Q : Value → Shared → Prop} (hu : X.A.units + 64 < cLine) (I : Inv X pins σ H s) (D : NDict X H a xs) (q : NKey X H k v) (rv : RelV v u) (h : ∀ s', Inv X pins σ H s' → Q (.bool (entAt xs k).isSome) s') :
    wpAny (model X.prog X.w) X.A (compareOp .In u (.ref a)) Q E s := by
  obtain ⟨ys, dh, p⟩ := D.heap I
  obtain ⟨b, rfl, rfl, ki⟩ := q.heap I rv
  refine wpAny_in_heap (nroom hu) ki D.low dh ?_
  have rel := (ent_val p k).isSome_eq
  rw [Option.isSome_map] at rel
  rw [← rel]; exact h _ (I.tok _)
theorem n_notIn {Q : Value → Shared → Prop} (hu : X.A.units + 64 < cLine) (I : Inv X pins σ H s) (D : NDict X H a xs) (q : NKey X H k v) (rv : RelV v u) (h : ∀ s', Inv X pins σ H s' → Q (.bool (!(entAt xs k).isSome)) s') :
    wpAny (model X.prog X.w) X.A (compareOp .NotIn u (.ref a)) Q E s := by
  obtain ⟨ys, dh, p⟩ := D.heap I
  obtain ⟨b, rfl, rfl, ki⟩ := q.heap I rv
  refine notIn_keyed (nroom hu) ki D.low ⟨ys, dh, rfl⟩ ?_
  rw [valueAt_pairsH, Option.isSome_map]
  have rel := (ent_val p k).isSome_eq
  rw [Option.isSome_map] at rel
  rw [← rel]; exact h _ (I.tok _)
/-- a store: in its place, or at the end -/
def entPut (xs : List Ent) (k : NK) (v r : V) : List Ent := if (entAt xs k).isSome = true then xs.map (fun x => if x.1 = k then (x.1, x.2.1, r) else x) else xs ++ [(k, v, r)]
theorem entPut_keys (xs : List Ent) (k : NK) (v r : V) : (entPut xs k v r).map (·.1) = if (entAt xs k).isSome = true then xs.map (·.1) else xs.map (·.1) ++ [k] := by
  unfold entPut; split
  · rw [List.map_map]; refine List.map_congr_left fun x _ => ?_
    show (if x.1 = k then (x.1, x.2.1, r) else x).1 = x.1
    split <;> rfl
  · rw [List.map_append]; rfl
theorem ent_repl {xs : List Ent} {ys : List (NK × Addr × Value)} (p : Paired (fun (x : Ent) (y : NK × Addr × Value) => x.1 = y.1 ∧ x.2.1 = .ref y.2.1 ∧ RelV x.2.2 y.2.2) xs ys) (k : NK) (r : V) {z : Value} (rz : RelV r z) :
    Paired (fun (x : Ent) (y : NK × Addr × Value) => x.1 = y.1 ∧ x.2.1 = .ref y.2.1 ∧ RelV x.2.2 y.2.2) (xs.map (fun x => if x.1 = k then (x.1, x.2.1, r) else x)) (ys.map (putAt k z)) := by
  induction p with
  | nil => exact .nil
  | @cons x y _ _ h t ih =>
    rw [List.map_cons, List.map_cons]
    refine .cons ?_ ih
    unfold putAt
    by_cases e : x.1 = k
    · rw [if_pos e, if_pos (by rw [← h.1]; exact e)]; exact ⟨h.1, h.2.1, rz⟩
    · rw [if_neg e, if_neg (by rw [← h.1]; exact e)]; exact h
theorem ent_put {xs : List Ent} {ys : List (NK × Addr × Value)} (p : Paired (fun (x : Ent) (y : NK × Addr × Value) => x.1 = y.1 ∧ x.2.1 = .ref y.2.1 ∧ RelV x.2.2 y.2.2) xs ys) (k : NK) (b : Addr) (r : V) {z : Value} (rz : RelV r z) :
    Paired (fun (x : Ent) (y : NK × Addr × Value) => x.1 = y.1 ∧ x.2.1 = .ref y.2.1 ∧ RelV x.2.2 y.2.2) (entPut xs k (.ref b) r) (storedH ys k b z) := by
  have rel := (ent_val p k).isSome_eq
  rw [Option.isSome_map] at rel
  unfold entPut storedH
  rw [rel]
  split
  · exact ent_repl p k r rz
  · exact Paired.snoc p ⟨rfl, rfl, rz⟩
theorem entAt_mem {xs : List Ent} {k : NK} (h : (entAt xs k).isSome = false) : ¬ k ∈ xs.map (·.1) := fun m => by
  obtain ⟨x, hx, e⟩ := List.mem_map.mp m
  unfold entAt at h
  rw [Option.isSome_map, Bool.eq_false_iff] at h
  exact h (List.find?_isSome.mpr ⟨x, hx, by simp [e]⟩)
theorem entPut_nd {xs : List Ent} (k : NK) (v r : V) (h : (xs.map (·.1)).Nodup) : ((entPut xs k v r).map (·.1)).Nodup := by
  rw [entPut_keys]
  cases e : (entAt xs k).isSome with
  | true => exact h
  | false =>
    simp only [Bool.false_eq_true, if_false]
    rw [List.nodup_append]
    refine ⟨h, by simp, fun x hx y hy => ?_⟩
    rw [List.mem_singleton.mp hy]
    intro z; subst z; exact entAt_mem e hx
theorem entPut_len (xs : List Ent) (k : NK) (v r : V) : (entPut xs k v r).length ≤ xs.length + 1 := by
  unfold entPut; split
  · rw [List.length_map]; exact Nat.le_succ _
  · rw [List.length_append]; exact Nat.le_refl _
theorem entPut_mem {xs : List Ent} {k : NK} {v r : V} {P : Ent → Prop} (h : ∀ x ∈ xs, P x) (f : ∀ x, P x → P (x.1, x.2.1, r)) (g : P (k, v, r)) : ∀ x ∈ entPut xs k v r, P x := by
  unfold entPut; split
  · intro x hx
    obtain ⟨y, hy, rfl⟩ := List.mem_map.mp hx
    show P (if y.1 = k then (y.1, y.2.1, r) else y)
    split
    · exact f y (h y hy)
    · exact h y hy
  · intro x hx
    rcases List.mem_append.mp hx with hx | hx
    · exact h x hx
    · rw [List.mem_singleton.mp hx]; exact g
theorem dphi_pair {w : World} {xs : List Ent} {ys : List (NK × Addr × Value)} (p : Paired (fun (x : Ent) (y : NK × Addr × Value) => x.1 = y.1 ∧ x.2.1 = .ref y.2.1 ∧ RelV x.2.2 y.2.2) xs ys) : Paired (entOk X.w) xs (ys.map (entryOfKey (nkd X))) := by
  induction p with
  | nil => exact .nil
  | @cons x y _ _ q _ ih => exact .cons ⟨by rw [q.1]; rfl, by rw [q.2.1]; rfl, q.2.2⟩ ih
/-- the object behind a change of the dict's own object -/
theorem dphi_of {xs : List Ent} {ys : List (NK × Addr × Value)} {h' : Heap} (dh : h'.DictOfH (nkd X) a ys) (p : Paired (fun (x : Ent) (y : NK × Addr × Value) => x.1 = y.1 ∧ x.2.1 = .ref y.2.1 ∧ RelV x.2.2 y.2.2) xs ys) : dphi X.w a xs h' := by
  obtain ⟨o, es, ep, e, c, d, ee, _, _⟩ := dh
  exact ⟨o, es, ep, e, c, d, by rw [ee]; exact dphi_pair (w := X.w) p⟩
theorem n_write {xs' : List Ent} {ys : List (NK × Addr × Value)} {h' : Heap} {t' : Nat} (I : Inv X pins σ H s) (D : NDict X H a xs) (dh : h'.DictOfH (nkd X) a ys) (hs : Heap.SameBut a s.heap h')
    (p : Paired (fun (x : Ent) (y : NK × Addr × Value) => x.1 = y.1 ∧ x.2.1 = .ref y.2.1 ∧ RelV x.2.2 y.2.2) xs' ys) : Inv X pins σ (upd H a (dobj X.w a xs')) { s with heap := h', toks := t' } := by
  have ph := dphi_of dh p
  refine d_write I (by rw [D.at_]; exact True.intro) hs ?_ (dobj_ok ph)
  obtain ⟨o, _, _, e, _⟩ := ph
  exact ⟨o, e⟩
theorem n_setItem {Q : Unit → Shared → Prop} {r : V} {z : Value} (hu : X.A.units + 64 < cLine) (I : Inv X pins σ H s) (D : NDict X H a xs) (q : NKey X H k v) (rv : RelV v u) (rz : RelV r z) (h : ∀ s', Inv X pins σ (upd H a (dobj X.w a (entPut xs k v r))) s' → Q () s') :
    wpAny (model X.prog X.w) X.A (setItem (.ref a) u z) Q E s := by
  obtain ⟨ys, dh, p⟩ := D.heap I
  obtain ⟨b, rfl, rfl, ki⟩ := q.heap I rv
  exact wpAny_setItem_heap (hsz := by rw [← p.length]; exact D.len) (nroom hu) ki dh fun h' dh' hs => h _ (n_write I D dh' hs (ent_put p k b r rz))
theorem n_get {Q : Value → Shared → Prop} {r : V} {z : Value} (hu : X.A.units + 64 < cLine) (I : Inv X pins σ H s) (D : NDict X H a xs) (q : NKey X H k v) (rv : RelV v u) (rz : RelV r z) (h : ∀ w' s', Inv X pins σ H s' → RelV ((entAt xs k).getD r) w' → Q w' s') :
    wpAny (model X.prog X.w) X.A (call (.builtin "dict.get") [.ref a, u, z]) Q E s := by
  obtain ⟨ys, dh, p⟩ := D.heap I
  obtain ⟨b, rfl, rfl, ki⟩ := q.heap I rv
  refine getOr_keyed (nroom hu) ki D.low ⟨ys, dh, rfl⟩ (h _ _ (I.tok _) ?_)
  rw [valueAt_pairsH]
  exact (ent_val p k).getD rz
theorem n_get1 {Q : Value → Shared → Prop} (hu : X.A.units + 64 < cLine) (I : Inv X pins σ H s) (D : NDict X H a xs) (q : NKey X H k v) (rv : RelV v u) (h : ∀ w' s', Inv X pins σ H s' → RelV ((entAt xs k).getD .non) w' → Q w' s') :
    wpAny (model X.prog X.w) X.A (call (.builtin "dict.get") [.ref a, u]) Q E s := by
  obtain ⟨ys, dh, p⟩ := D.heap I
  obtain ⟨b, rfl, rfl, ki⟩ := q.heap I rv
  refine get_keyed (nroom hu) ki D.low ⟨ys, dh, rfl⟩ (h _ _ (I.tok _) ?_)
  rw [valueAt_pairsH]
  exact (ent_val p k).getD (d := V.non) (d' := Value.none) rfl
theorem n_len {Q : Value → Shared → Prop} (I : Inv X pins σ H s) (D : NDict X H a xs) (h : ∀ s' t, Inv X pins σ H s' → Q (.int xs.length t) s') :
    wpAny (model X.prog X.w) X.A (call (.builtin "dict.__len__") [.ref a]) Q E s := by
  obtain ⟨ys, dh, p⟩ := D.heap I
  refine len_keyed D.low ⟨ys, dh, rfl⟩ ?_
  rw [pairsH_length, ← p.length]
  exact h _ _ (I.tok _)
/-- the empty dict is of both kinds -/
theorem empty_n (I : Inv X pins σ H s) (e : H a = some (.dK [])) : Inv X pins σ (upd H a (dobj X.w a [])) s := by
  obtain ⟨z, hd, vs, rel, o, es, ep, h1, h2, h3, _, h5, _⟩ := dk_of I.hok e
  cases rel
  have e0 : es.toList = [] := by cases q : es.toList with | nil => rfl | cons x xs => rw [q] at h5; cases h5
  exact d_write (h' := s.heap) (t' := s.toks) I (by rw [e]; exact True.intro) ⟨rfl, fun _ _ => rfl⟩ ⟨o, h1⟩ (dobj_ok ⟨o, es, ep, h1, h2, h3, by rw [e0]; exact .nil⟩)
theorem empty_k (I : Inv X pins σ H s) (e : H a = some (dobj X.w a [])) (low : (a == sysModules) = false) : Inv X pins σ (upd H a (.dK [])) s := by
  obtain ⟨⟨o, es, ep, h1, h2, h3, p⟩, _⟩ := (show ObjOk X.prog X.w H s.heap a (dobj X.w a []) from I.hok a _ e)
  have e0 : es = #[] := by
    cases q : es.toList with
    | nil => exact Array.toList_eq_nil_iff.mp q
    | cons x xs => rw [q] at p; cases p
  subst e0
  exact d_write (h' := s.heap) (t' := s.toks) I (by rw [e]; exact True.intro) ⟨rfl, fun _ _ => rfl⟩ ⟨o, h1⟩ (dk_new (Nat.zero_le _) low .nil ⟨o, #[], ep, h1, h2, h3, by intro e he; simp at he, by exact .nil, by simp⟩)
end
end DL
namespace DL
open PySem PySem.Spec PyProof.Rows L2
/-! ### data -/
/-- the written part, and the world (of the texts' hashes) -/
structure KW where
  F : PySem.W.Frag
  w : World
abbrev _root_.L2.Cx.kw (X : L2.Cx) : KW := ⟨X.K, X.w⟩
inductive D where
  | none | bool (b : Bool) | int (i : Int) | str (x : Str) | tup (xs : List D) | rol (xs : List D) | ref (a : Addr) | ty (n : String)
deriving Inhabited
/-- a list that nobody writes: locked, or of the written part -/
def ROL (K : KW) (H : Hp) (a : Addr) (xs : List V) : Prop :=
  (∃ o, H a = some (.frz o (.lst xs))) ∨
    ∃ (o : Obj) (its : Array Value) (n : Nat), K.F.lookup a = some o ∧ o.cls = .type "list" ∧ o.dict = none ∧ o.data = .seq its n ∧ its.size ≤ sizeLine ∧ Vals xs its.toList
theorem ROL.sq {K : KW} {H : Hp} {a : Addr} {xs : List V} (h : ROL K H a xs) : SqL K.F H a xs := by
  rcases h with ⟨o, h⟩ | h
  · exact .inl (.inr ⟨o, h⟩)
  · exact .inr h
/-- a text that the rules take -/
def okS (x : Str) : Prop := x.length ≤ sizeLine ∧ PyData.strOk x = true
mutual
def RepV (K : KW) (H : Hp) : D → V → Prop
  | .none, v => v = .non
  | .bool b, v => v = .bl b
  | .int i, v => v = .int i
  | .str x, v => v = .str x ∧ okS x
  | .ref a, v => v = .ref a
  | .ty n, v => v = .ty n
  | .tup ds, v => ∃ a vs, v = .ref a ∧ SqT K.F H a vs ∧ RepVs K H ds vs
  | .rol ds, v => ∃ a vs, v = .ref a ∧ ROL K H a vs ∧ RepVs K H ds vs
def RepVs (K : KW) (H : Hp) : List D → List V → Prop
  | [], vs => vs = []
  | d :: ds, vs => ∃ v r, vs = v :: r ∧ RepV K H d v ∧ RepVs K H ds r
end
/-- what stands for good stands -/
structure Mo (K : KW) (H H' : Hp) : Prop where
  t : ∀ a xs, SqT K.F H a xs → SqT K.F H' a xs
  l : ∀ a xs, ROL K H a xs → ROL K H' a xs
theorem Mo.refl {K : KW} {H : Hp} : Mo K H H := ⟨fun _ _ h => h, fun _ _ h => h⟩
theorem Mo.trans {K : KW} {H H1 H2 : Hp} (a : Mo K H H1) (b : Mo K H1 H2) : Mo K H H2 := ⟨fun c xs h => b.t c xs (a.t c xs h), fun c xs h => b.l c xs (a.l c xs h)⟩
mutual
theorem RepV.mono {K : KW} {H H' : Hp} (m : Mo K H H') : ∀ (d : D) {v : V}, RepV K H d v → RepV K H' d v
  | .none, _, h => h
  | .bool _, _, h => h
  | .int _, _, h => h
  | .str _, _, h => h
  | .ref _, _, h => h
  | .ty _, _, h => h
  | .tup ds, _, h => by
    obtain ⟨a, vs, e, s, r⟩ := h
    exact ⟨a, vs, e, m.t _ _ s, RepVs.mono m ds r⟩
  | .rol ds, _, h => by
    obtain ⟨a, vs, e, s, r⟩ := h
    exact ⟨a, vs, e, m.l _ _ s, RepVs.mono m ds r⟩
theorem RepVs.mono {K : KW} {H H' : Hp} (m : Mo K H H') : ∀ (ds : List D) {vs : List V}, RepVs K H ds vs → RepVs K H' ds vs
  | [], _, h => h
  | d :: ds, _, h => by
    obtain ⟨v, r, e, h1, h2⟩ := h
    exact ⟨v, r, e, RepV.mono m d h1, RepVs.mono m ds h2⟩
end
section
variable {K : KW} {H : Hp}
theorem RepVs.pair : ∀ {ds : List D} {vs : List V}, RepVs K H ds vs → Paired (RepV K H) ds vs
  | [], _, h => by cases (show _ = [] from h); exact .nil
  | d :: ds, _, h => by
    obtain ⟨v, r, rfl, h1, h2⟩ := h
    exact .cons h1 (RepVs.pair h2)
theorem RepVs.of : ∀ {ds : List D} {vs : List V}, Paired (RepV K H) ds vs → RepVs K H ds vs
  | _, _, .nil => rfl
  | _, _, .cons h t => ⟨_, _, rfl, h, RepVs.of t⟩
theorem RepVs.length {ds : List D} {vs : List V} (h : RepVs K H ds vs) : ds.length = vs.length := h.pair.length
theorem RepVs.cons {d : D} {ds : List D} {v : V} {vs : List V} (h : RepV K H d v) (t : RepVs K H ds vs) : RepVs K H (d :: ds) (v :: vs) := ⟨v, vs, rfl, h, t⟩
theorem RepVs.nil : RepVs K H [] [] := rfl
end
section
variable {α β : Type} {R : α → β → Prop}
theorem P2.get : ∀ {xs : List α} {ys : List β} {i : Nat} {x : α}, Paired R xs ys → xs[i]? = some x → ∃ y, ys[i]? = some y ∧ R x y
  | _, _, _, _, .nil, e => by simp at e
  | _, _, 0, _, .cons r _, e => by simp at e; subst e; exact ⟨_, rfl, r⟩
  | _, _, i + 1, x, .cons _ t, e => by
    obtain ⟨u, h1, h2⟩ := P2.get (i := i) (x := x) t (by simpa using e)
    exact ⟨u, by simpa using h1, h2⟩
theorem P2.get' : ∀ {xs : List α} {ys : List β} {i : Nat} {y : β}, Paired R xs ys → ys[i]? = some y → ∃ x, xs[i]? = some x ∧ R x y
  | _, _, _, _, .nil, e => by simp at e
  | _, _, 0, _, .cons r _, e => by simp at e; subst e; exact ⟨_, rfl, r⟩
  | _, _, i + 1, x, .cons _ t, e => by
    obtain ⟨u, h1, h2⟩ := P2.get' (i := i) (y := x) t (by simpa using e)
    exact ⟨u, by simpa using h1, h2⟩
theorem P2.set {x : α} {u : β} (r : R x u) : ∀ {xs : List α} {us : List β} (i : Nat), Paired R xs us → Paired R (xs.set i x) (us.set i u)
  | _, _, _, .nil => .nil
  | _, _, 0, .cons _ t => .cons r t
  | _, _, i + 1, .cons q t => .cons q (P2.set r i t)
theorem P2.append : ∀ {xs ys : List α} {us ws : List β}, Paired R xs us → Paired R ys ws → Paired R (xs ++ ys) (us ++ ws)
  | _, _, _, _, .nil, s => s
  | _, _, _, _, .cons r t, s => .cons r (P2.append t s)
theorem P2.take : ∀ {xs : List α} {us : List β} (n : Nat), Paired R xs us → Paired R (xs.take n) (us.take n)
  | _, _, 0, _ => .nil
  | _, _, _ + 1, .nil => .nil
  | _, _, n + 1, .cons r t => .cons r (P2.take n t)
theorem P2.drop : ∀ {xs : List α} {us : List β} (n : Nat), Paired R xs us → Paired R (xs.drop n) (us.drop n)
  | _, _, 0, r => r
  | _, _, _ + 1, .nil => .nil
  | _, _, n + 1, .cons _ t => P2.drop n t
theorem P2.reverse {xs : List α} {us : List β} (h : Paired R xs us) : Paired R xs.reverse us.reverse := by
  induction h with
  | nil => exact .nil
  | cons r _ ih => rw [List.reverse_cons, List.reverse_cons]; exact P2.append ih (.cons r .nil)
theorem P2.eraseIdx : ∀ {xs : List α} {us : List β} (n : Nat), Paired R xs us → Paired R (xs.eraseIdx n) (us.eraseIdx n)
  | _, _, _, .nil => .nil
  | _, _, 0, .cons _ t => t
  | _, _, n + 1, .cons r t => .cons r (P2.eraseIdx n t)
theorem P2.dropLast {xs : List α} {us : List β} (h : Paired R xs us) : Paired R xs.dropLast us.dropLast := by
  rw [List.dropLast_eq_take, List.dropLast_eq_take, h.length]; exact P2.take _ h
theorem P2.mono {S : α → β → Prop} (f : ∀ a b, R a b → S a b) : ∀ {xs : List α} {us : List β}, Paired R xs us → Paired S xs us
  | _, _, .nil => .nil
  | _, _, .cons r t => .cons (f _ _ r) (P2.mono f t)
end
/-! ### keys -/
mutual
/-- the key that a value is -/
def nk : D → Option NK
  | .none => some .none
  | .bool b => some (.num (if b = true then 1 else 0))
  | .int i => some (.num i)
  | .str x => some (.text x)
  | .tup ds => (nks ds).map .tup
  | .rol _ => none
  | .ref _ => none
  | .ty _ => none
def nks : List D → Option (List NK)
  | [] => some []
  | d :: ds => match nk d, nks ds with
    | some k, some ks => some (k :: ks)
    | _, _ => none
end
mutual
theorem nk_kis {K : KW} {H : Hp} : ∀ (d : D) {v : V} {k : NK}, RepV K H d v → nk d = some k → KIs K.F H k v
  | .none, _, _, r, e => by cases e; exact r
  | .bool b, _, _, r, e => by cases e; exact .inr ⟨b, r, rfl⟩
  | .int i, _, _, r, e => by cases e; exact .inl r
  | .str x, _, _, r, e => by cases e; exact r.1
  | .rol _, _, _, _, e => by cases e
  | .ref _, _, _, _, e => by cases e
  | .ty _, _, _, _, e => by cases e
  | .tup ds, _, _, r, e => by
    obtain ⟨a, vs, ev, st, rs⟩ := r
    unfold nk at e
    obtain ⟨ks, ek, rfl⟩ := Option.map_eq_some_iff.mp e
    exact ⟨a, vs, ev, st, nks_kall ds rs ek⟩
theorem nks_kall {K : KW} {H : Hp} : ∀ (ds : List D) {vs : List V} {ks : List NK}, RepVs K H ds vs → nks ds = some ks → KAll K.F H ks vs
  | [], _, _, r, e => by cases e; exact r
  | d :: ds, _, _, r, e => by
    obtain ⟨v, w, ev, r1, r2⟩ := r
    unfold nks at e
    cases e1 : nk d with
    | none => rw [e1] at e; cases e
    | some k =>
      cases e2 : nks ds with
      | none => rw [e1, e2] at e; cases e
      | some ks =>
        rw [e1, e2] at e; cases e
        exact ⟨v, w, ev, nk_kis d r1 e1, nks_kall ds r2 e2⟩
end
/-- a number or a text -/
def scaK : D → Option L2.Key
  | .int i => some (.inl i)
  | .str x => some (.inr x)
  | _ => none
theorem sca_rep {K : KW} {H : Hp} {d : D} {v : V} {k : L2.Key} (r : RepV K H d v) (e : scaK d = some k) : v = kV k := by
  cases d <;> first | (cases e; done) | skip
  case int i => cases e; exact r
  case str x => cases e; exact r.1
def tupK (d : D) : Bool := match d with
  | .tup _ => match nk d with
    | some k => decide (k.depth ≤ 8)
    | none => false
  | _ => false
theorem tupK_some {d : D} (h : tupK d = true) : ∃ ks, nk d = some (.tup ks) ∧ (NestedKey.tup ks).depth ≤ 8 := by
  cases d with
  | tup ds =>
    unfold tupK at h
    cases e : nk (.tup ds) with
    | none => rw [e] at h; cases h
    | some k =>
      rw [e] at h
      have e2 := e
      unfold nk at e2
      obtain ⟨ks, _, rfl⟩ := Option.map_eq_some_iff.mp e2
      exact ⟨ks, rfl, of_decide_eq_true h⟩
  | _ => cases h
/-! ### the data-level heap -/
abbrev Kvs := List (D × D)
inductive MO where
  | lst (xs : List D)
  | dic (kvs : Kvs)
  | ins (c : Addr) (fs : List (Str × D))
abbrev MH := Addr → Option MO
def up (h : MH) (a : Addr) (o : MO) : MH := fun b => if b = a then some o else h b
theorem up_same {h : MH} {a : Addr} {o : MO} : up h a o a = some o := by unfold up; rw [if_pos rfl]
theorem up_ne {h : MH} {a b : Addr} {o : MO} (n : b ≠ a) : up h a o b = h b := by unfold up; rw [if_neg n]
theorem up_up {h : MH} {a : Addr} {o u : MO} : up (up h a o) a u = up h a u := by
  funext b; unfold up; split <;> rfl
def le (h h' : MH) : Prop := ∀ a o, h a = some o → h' a = some o
theorem le.refl {h : MH} : le h h := fun _ _ e => e
theorem le.trans {h h1 h2 : MH} (a : le h h1) (b : le h1 h2) : le h h2 := fun c o e => b c o (a c o e)
theorem le.up {h : MH} {a : Addr} {o : MO} (n : h a = none) : le h (up h a o) := fun b u e => by
  rw [up_ne (fun z => by rw [z, n] at e; cases e)]; exact e
theorem le.up2 {h h' : MH} {a : Addr} {o : MO} (l : le h h') : le (DL.up h a o) (DL.up h' a o) := fun b u e => by
  unfold DL.up at e ⊢; split at e
  · rename_i z; rw [if_pos z]; exact e
  · rename_i z; rw [if_neg z]; exact l b u e
/-- pairs -/
def RepKs (K : KW) (H : Hp) (kvs : Kvs) (kv : List (L2.Key × V)) : Prop := Paired (fun (p : D × D) (q : L2.Key × V) => scaK p.1 = some q.1 ∧ RepV K H p.1 (kV q.1) ∧ RepV K H p.2 q.2) kvs kv
def RepNs (K : KW) (H : Hp) (kvs : Kvs) (xs : List Ent) : Prop := Paired (fun (p : D × D) (x : Ent) => nk p.1 = some x.1 ∧ RepV K H p.1 x.2.1 ∧ RepV K H p.2 x.2.2) kvs xs
def RepFs (K : KW) (H : Hp) (fs : List (Str × D)) (vs : List (Str × V)) : Prop := Paired (fun (p : Str × D) (q : Str × V) => p.1 = q.1 ∧ RepV K H p.2 q.2) fs vs
/-- a dict with tuples as keys -/
structure RepN (K : KW) (H : Hp) (a : Addr) (kvs : Kvs) (xs : List Ent) : Prop where
  at_ : H a = some (dobj K.w a xs)
  rep : RepNs K H kvs xs
  tup : ∀ p ∈ kvs, tupK p.1 = true
  nd : (xs.map (·.1)).Nodup
  len : kvs.length ≤ sizeLine
  low : (a == sysModules) = false
/-- what stands at an address -/
def RepO (K : KW) (H : Hp) (a : Addr) : MO → Prop
  | .lst ds => ∃ vs, H a = some (.lst vs) ∧ RepVs K H ds vs
  | .dic kvs => (∃ kv, H a = some (.dK kv) ∧ RepKs K H kvs kv) ∨ ∃ xs, RepN K H a kvs xs
  | .ins c fs => ∃ dx vs, H a = some (.ins c dx vs) ∧ RepFs K H fs vs
/-- hidden from the data level -/
def hid : HO → Bool
  | .lst _ => false
  | .dK _ => false
  | .ext _ => false
  | .ins _ _ _ => false
  | _ => true
def RepH (K : KW) (h : MH) (H : Hp) : Prop := ∀ a o, h a = some o → RepO K H a o
/-- hidden things stand -/
def Stp (h : MH) (H : Hp) (h' : MH) (H' : Hp) : Prop := ∀ a o, h a = none → H a = some o → h' a = none ∧ H' a = some o
section
variable {K : KW} {h h' h1 h2 h0 : MH} {H H' H1 H2 : Hp} {a l : Addr} {d : D} {ds : List D} {v : V} {vs : List V} {o0 : MO}
theorem RepH.low (r : RepH K h H) (w : le h0 h) : RepH K h0 H := fun a o e => r a o (w a o e)
theorem Stp.refl : Stp h H h H := fun _ _ a b => ⟨a, b⟩
theorem Stp.trans (a : Stp h H h1 H1) (b : Stp h1 H1 h2 H2) : Stp h H h2 H2 := fun c o e f => let ⟨x, y⟩ := a c o e f; b c o x y
theorem Stp.low (a : Stp h H h1 H1) (w : le h0 h1) : Stp h H h0 H1 := fun c o e f => by
  obtain ⟨x, y⟩ := a c o e f
  refine ⟨?_, y⟩
  cases q : h0 c with
  | none => rfl
  | some u => rw [w c u q] at x; cases x
theorem RepO.hid (x : RepO K H a o0) : ∃ o, H a = some o ∧ hid o = false := by
  cases o0 with
  | lst ds => obtain ⟨vs, e, _⟩ := x; exact ⟨_, e, rfl⟩
  | dic kvs =>
    rcases x with ⟨kv, e, _⟩ | ⟨xs, r⟩
    · exact ⟨_, e, rfl⟩
    · exact ⟨_, r.at_, rfl⟩
  | ins c fs => obtain ⟨dx, vs, e, _⟩ := x; exact ⟨_, e, rfl⟩
theorem RepH.hid (r : RepH K h H) {o : HO} (e : H a = some o) (n : DL.hid o = true) : h a = none := by
  cases q : h a with
  | none => rfl
  | some u =>
    obtain ⟨o2, e2, z⟩ := (r a _ q).hid
    rw [e] at e2; cases e2
    rw [n] at z; cases z
theorem Stp.mo (r : RepH K h H) (s : Stp h H h' H') : Mo K H H' := by
  refine ⟨fun a xs q => ?_, fun a xs q => ?_⟩
  · rcases q with (q | ⟨o, q⟩) | q
    · exact .inl (.inl (s a _ (r.hid q rfl) q).2)
    · exact .inl (.inr ⟨o, (s a _ (r.hid q rfl) q).2⟩)
    · exact .inr q
  · rcases q with ⟨o, q⟩ | q
    · exact .inl ⟨o, (s a _ (r.hid q rfl) q).2⟩
    · exact .inr q
theorem RepO.mono (m : Mo K H H') {o : MO} (q : ∀ u, H a = some u → H' a = some u) (x : RepO K H a o) : RepO K H' a o := by
  cases o with
  | lst ds =>
    obtain ⟨vs, e, r⟩ := x
    exact ⟨vs, q _ e, RepVs.mono m _ r⟩
  | dic kvs =>
    rcases x with ⟨kv, e, r⟩ | ⟨xs, r⟩
    · exact .inl ⟨kv, q _ e, P2.mono (fun _ _ z => ⟨z.1, RepV.mono m _ z.2.1, RepV.mono m _ z.2.2⟩) r⟩
    · exact .inr ⟨xs, ⟨q _ r.at_, P2.mono (fun _ _ z => ⟨z.1, RepV.mono m _ z.2.1, RepV.mono m _ z.2.2⟩) r.rep, r.tup, r.nd, r.len, r.low⟩⟩
  | ins c fs =>
    obtain ⟨dx, vs, e, r⟩ := x
    exact ⟨dx, vs, q _ e, P2.mono (fun _ _ z => ⟨z.1, RepV.mono m _ z.2⟩) r⟩
theorem RepH.nofresh (r : RepH K h H) (n : H l = none) : h l = none := by
  cases q : h l with
  | none => rfl
  | some u =>
    obtain ⟨o2, e2, _⟩ := (r l _ q).hid
    rw [n] at e2; cases e2
/-- something hidden is laid -/
theorem Stp.hide {o : HO} (n : H l = none) : Stp h H h (upd H l o) := fun a u e f => ⟨e, by rw [upd_ne (ne_of_none f n)]; exact f⟩
theorem RepH.hide (r : RepH K h H) {o : HO} (n : H l = none) : RepH K h (upd H l o) := fun a u e =>
  (r a u e).mono (Stp.mo r (Stp.hide n)) fun x f => by rw [upd_ne (ne_of_none f n)]; exact f
/-- a thing is laid -/
theorem Stp.new {o : HO} {u : MO} (n : H l = none) : Stp h H (up h l u) (upd H l o) := fun a x e f =>
  ⟨by rw [up_ne (ne_of_none f n)]; exact e, by rw [upd_ne (ne_of_none f n)]; exact f⟩
theorem RepH.newO (r : RepH K h H) (n : H l = none) {o : HO} {u : MO} (x : RepO K (upd H l o) l u) : RepH K (up h l u) (upd H l o) := fun a w e => by
  have m := Stp.mo r (Stp.hide (o := o) n)
  by_cases q : a = l
  · subst q
    rw [up_same] at e; cases e
    exact x
  · rw [up_ne q] at e
    exact (r a w e).mono m fun x f => by rw [upd_ne q]; exact f
theorem RepH.new (r : RepH K h H) (n : H l = none) (rv : RepVs K H ds vs) : RepH K (up h l (.lst ds)) (upd H l (.lst vs)) :=
  r.newO n ⟨vs, upd_same, RepVs.mono (Stp.mo r (Stp.hide (o := .lst vs) n)) _ rv⟩
/-- a thing is written -/
theorem Stp.write {o : HO} {u x : MO} (e0 : h a = some x) : Stp h H (up h a u) (upd H a o) := fun b y e f => by
  have n : b ≠ a := fun z => by rw [z, e0] at e; cases e
  exact ⟨by rw [up_ne n]; exact e, by rw [upd_ne n]; exact f⟩
theorem RepH.writeO (r : RepH K h H) (e0 : h a = some o0) {o : HO} {u : MO} (x : RepO K (upd H a o) a u) : RepH K (up h a u) (upd H a o) := fun b w e => by
  have m := Stp.mo r (Stp.write (o := o) (u := u) e0)
  by_cases q : b = a
  · subst q
    rw [up_same] at e; cases e
    exact x
  · rw [up_ne q] at e
    exact (r b w e).mono m fun x f => by rw [upd_ne q]; exact f
theorem RepH.write (r : RepH K h H) {ds0 : List D} (e0 : h a = some (.lst ds0)) (rv : RepVs K H ds vs) : RepH K (up h a (.lst ds)) (upd H a (.lst vs)) :=
  r.writeO e0 ⟨vs, upd_same, RepVs.mono (Stp.mo r (Stp.write (o := .lst vs) (u := .lst ds) e0)) _ rv⟩
end
/-! ### the frame -/
abbrev Sl := List (Option D)
def nth : Sl → Nat → Option D
  | [], _ => none
  | x :: _, 0 => x
  | _ :: r, n + 1 => nth r n
def put : Sl → Nat → Option D → Sl
  | [], _, _ => []
  | _ :: r, 0, d => d :: r
  | x :: r, n + 1, d => x :: put r n d
theorem put_len : ∀ (σ : Sl) (i : Nat) (d : Option D), (put σ i d).length = σ.length
  | [], _, _ => rfl
  | _ :: _, 0, _ => rfl
  | _ :: r, n + 1, d => by show (put r n d).length + 1 = r.length + 1; rw [put_len r n d]
theorem nth_put : ∀ (σ : Sl) (i j : Nat) (d : Option D) {e : D}, nth (put σ i d) j = some e → (j = i ∧ d = some e) ∨ (j ≠ i ∧ nth σ j = some e)
  | [], _, _, _, _, h => by cases h
  | x :: r, 0, 0, d, e, h => .inl ⟨rfl, h⟩
  | x :: r, 0, j + 1, d, e, h => .inr ⟨by omega, h⟩
  | x :: r, n + 1, 0, d, e, h => .inr ⟨by omega, h⟩
  | x :: r, n + 1, j + 1, d, e, h => by
    rcases nth_put r n j d h with ⟨a, b⟩ | ⟨a, b⟩
    · exact .inl ⟨by omega, b⟩
    · exact .inr ⟨by omega, b⟩
theorem nth_lt : ∀ (σ : Sl) (i : Nat) {e : D}, nth σ i = some e → i < σ.length
  | [], _, _, h => by cases h
  | _ :: _, 0, _, _ => Nat.zero_lt_succ _
  | _ :: r, n + 1, _, h => Nat.succ_lt_succ (nth_lt r n h)
structure RepE (K : KW) (H : Hp) (σ : Sl) (σV : L2.St) : Prop where
  len : σ.length = σV.length
  val : ∀ i d, nth σ i = some d → ∃ v, σV[i]? = some (some v) ∧ RepV K H d v
section
variable {K : KW} {H H' : Hp} {σ τ : Sl} {σV : L2.St}
theorem RepE.mono (m : Mo K H H') (r : RepE K H σ σV) : RepE K H' σ σV := ⟨r.len, fun i d e => let ⟨v, a, b⟩ := r.val i d e; ⟨v, a, RepV.mono m _ b⟩⟩
theorem RepE.put {i : Nat} {d : D} {v : V} (r : RepE K H σ σV) (rv : RepV K H d v) : RepE K H (put σ i (some d)) (σV.set i (some v)) := by
  refine ⟨by rw [put_len, List.length_set]; exact r.len, fun j e h => ?_⟩
  have hl := nth_lt _ _ h
  rw [put_len, r.len] at hl
  rcases nth_put σ i j _ h with ⟨rfl, q⟩ | ⟨n, q⟩
  · cases q
    exact ⟨v, by rw [List.getElem?_set_self hl], rv⟩
  · obtain ⟨w, a, b⟩ := r.val j e q
    exact ⟨w, by rw [List.getElem?_set_ne (Ne.symm n)]; exact a, b⟩
/-- slots forgotten -/
def leS (τ σ : Sl) : Prop := τ.length = σ.length ∧ ∀ i d, nth τ i = some d → nth σ i = some d
theorem leS.refl : leS σ σ := ⟨rfl, fun _ _ h => h⟩
theorem leS.trans {ρ : Sl} (a : leS ρ τ) (b : leS τ σ) : leS ρ σ := ⟨a.1.trans b.1, fun i d h => b.2 i d (a.2 i d h)⟩
theorem leS.nil : leS [] [] := ⟨rfl, fun _ _ h => h⟩
theorem leS.cons {x : Option D} (a : leS τ σ) : leS (x :: τ) (x :: σ) := ⟨by simp [a.1], fun i d h => by
  cases i with
  | zero => exact h
  | succ n => exact a.2 n d h⟩
theorem leS.skip {x : Option D} (a : leS τ σ) : leS (none :: τ) (x :: σ) := ⟨by simp [a.1], fun i d h => by
  cases i with
  | zero => cases h
  | succ n => exact a.2 n d h⟩
theorem RepE.low (r : RepE K H σ σV) (w : leS τ σ) : RepE K H τ σV := ⟨w.1.trans r.len, fun i d h => r.val i d (w.2 i d h)⟩
end
/-! ### readings of the data level, lowered -/
abbrev KD := D → MH → Prop
abbrev E1 := Sl → MH → KD → Prop
abbrev T1 := Sl → MH → (Bool → MH → Prop) → Prop
abbrev A1 := Sl → MH → (List D → MH → Prop) → Prop
def Cl (K : KW) (h : MH) (H : Hp) (Q : KD) (QV : VK) : Prop := ∀ d h' v H', Stp h H h' H' → RepH K h' H' → RepV K H' d v → Q d h' → QV v H'
def ClB (K : KW) (h : MH) (H : Hp) (Q : Bool → MH → Prop) (QV : Bool → Hp → Prop) : Prop := ∀ b h' H', Stp h H h' H' → RepH K h' H' → Q b h' → QV b H'
def ClA (K : KW) (h : MH) (H : Hp) (Q : List D → MH → Prop) (QV : List V → Hp → Prop) : Prop := ∀ ds h' vs H', Stp h H h' H' → RepH K h' H' → RepVs K H' ds vs → Q ds h' → QV vs H'
def lowE (K : KW) (t : E1) : TE := fun σV H QV => ∃ σ h Q, RepE K H σ σV ∧ RepH K h H ∧ t σ h Q ∧ Cl K h H Q QV
def lowT (K : KW) (t : T1) : TT := fun σV H QV => ∃ σ h Q, RepE K H σ σV ∧ RepH K h H ∧ t σ h Q ∧ ClB K h H Q QV
def lowA (K : KW) (t : A1) : TA := fun σV H QV => ∃ σ h Q, RepE K H σ σV ∧ RepH K h H ∧ t σ h Q ∧ ClA K h H Q QV
theorem Cl.step {K : KW} {h h1 : MH} {H H1 : Hp} {Q : KD} {QV : VK} (s : Stp h H h1 H1) (c : Cl K h H Q QV) : Cl K h1 H1 Q QV := fun d h' v H' s' a b q => c d h' v H' (s.trans s') a b q
theorem ClB.step {K : KW} {h h1 : MH} {H H1 : Hp} {Q : Bool → MH → Prop} {QV : Bool → Hp → Prop} (s : Stp h H h1 H1) (c : ClB K h H Q QV) : ClB K h1 H1 Q QV := fun d h' H' s' a q => c d h' H' (s.trans s') a q
theorem ClA.step {K : KW} {h h1 : MH} {H H1 : Hp} {Q : List D → MH → Prop} {QV : List V → Hp → Prop} (s : Stp h H h1 H1) (c : ClA K h H Q QV) : ClA K h1 H1 Q QV := fun d h' v H' s' a b q => c d h' v H' (s.trans s') a b q
theorem weakE {X : Cx} {e : Expr} {t t' : TE} (p : PE X e t) (w : ∀ σ H Q, t' σ H Q → t σ H Q) : PE X e t' := ⟨fun pins s σ H Q I h => p.run pins s σ H Q I (w σ H Q h)⟩
theorem weakT {X : Cx} {e : Expr} {t t' : TT} (p : PT X e t) (w : ∀ σ H Q, t' σ H Q → t σ H Q) : PT X e t' := ⟨fun pins s σ H Q I h => p.run pins s σ H Q I (w σ H Q h)⟩
theorem weakA {X : Cx} {e : List Expr} {t t' : TA} (p : PA X e t) (w : ∀ σ H Q, t' σ H Q → t σ H Q) : PA X e t' := ⟨fun pos pins s σ H Q I h => p.run pos pins s σ H Q I (w σ H Q h)⟩
abbrev DE (X : Cx) (e : Expr) (t : E1) : Prop := PE X e (lowE X.kw t)
abbrev DT (X : Cx) (e : Expr) (t : T1) : Prop := PT X e (lowT X.kw t)
abbrev DA (X : Cx) (es : List Expr) (t : A1) : Prop := PA X es (lowA X.kw t)
section
variable {X : Cx}
/-! names, constants -/
def dVar (i : Nat) : E1 := fun σ h Q => match nth σ i with | some d => Q d h | none => False
def dC (d : D) : E1 := fun _ h Q => Q d h
theorem de_var (i : Nat) {x : Str} {pos : Pos} (hN : X.N[i]? = some x := by rfl) (hv : Vis X.env.scope x := by first | exact Or.inl rfl | exact Or.inr (Or.inl rfl) | exact Or.inr (Or.inr rfl)) (hd : (x == ("__debug__" : Str)) = false := by decide)
    (hcd : (x == ("__classdict__" : Str)) = false := by decide) : DE X (.Name x pos) (dVar i) := weakE (pe_var hN hv hd hcd) fun σV H QV ⟨σ, h, Q, hE, hH, ht, hc⟩ => by
  unfold dVar at ht
  cases e : nth σ i with
  | none => rw [e] at ht; exact ht.elim
  | some d =>
    rw [e] at ht
    obtain ⟨v, e2, r⟩ := hE.val i d e
    exact ⟨v, e2, hc d h v H Stp.refl hH r ht⟩
theorem de_c {e : Expr} {d : D} {v : V} (p : PE X e (tC v)) (r : ∀ H, RepV X.kw H d v) : DE X e (dC d) := weakE p fun σV H QV ⟨σ, h, Q, hE, hH, ht, hc⟩ => hc d h v H Stp.refl hH (r H) ht
theorem de_int {i j pos} : DE X (.Constant (.int i) j pos) (dC (.int i)) := de_c pe_int fun _ => rfl
theorem de_bl {i j pos} : DE X (.Constant (.bool i) j pos) (dC (.bool i)) := de_c pe_bl fun _ => rfl
theorem de_non {j pos} : DE X (.Constant .none j pos) (dC .none) := de_c pe_non fun _ => rfl
theorem de_str {x j pos} (ok : okS x := by exact ⟨by decide, by decide +kernel⟩) : DE X (.Constant (.str x) j pos) (dC (.str x)) := de_c pe_str fun _ => ⟨rfl, ok⟩
/-- a module's constant that is a number, a text .. -/
theorem de_globI {x : Str} {i : Int} {u : Value} {pos : Pos} (hg : Gl X x) (hm : X.mg x = some u) (r : RelV (.int i) u) (hd : (x == ("__debug__" : Str)) = false := by decide) : DE X (.Name x pos) (dC (.int i)) := de_c (pe_glob hg hm r hd) fun _ => rfl
theorem de_globS {x : Str} {i : Str} {u : Value} {pos : Pos} (hg : Gl X x) (hm : X.mg x = some u) (r : RelV (.str i) u) (ok : okS i := by exact ⟨by decide, by decide +kernel⟩) (hd : (x == ("__debug__" : Str)) = false := by decide) : DE X (.Name x pos) (dC (.str i)) := de_c (pe_glob hg hm r hd) fun _ => ⟨rfl, ok⟩
/-! two-place operations -/
abbrev R1 := D → D → MH → KD → Prop
def lowR (K : KW) (r : R1) : R2 := fun x y H QV => ∃ d e h Q, RepV K H d x ∧ RepV K H e y ∧ RepH K h H ∧ r d e h Q ∧ Cl K h H Q QV
def dOp (r : R1) (ta tb : E1) : E1 := fun σ h Q => ta σ h fun x h1 => tb σ h1 fun y h2 => r x y h2 Q
theorem low_op {K : KW} {r : R1} {ta tb : E1} {σV : L2.St} {H : Hp} {QV : VK} (h : lowE K (dOp r ta tb) σV H QV) : tOp (lowR K r) (lowE K ta) (lowE K tb) σV H QV := by
  obtain ⟨σ, h, Q, hE, hH, ht, hc⟩ := h
  refine ⟨σ, h, _, hE, hH, ht, fun x h1 v1 H1 s1 hH1 r1 q1 => ?_⟩
  refine ⟨σ, h1, _, hE.mono (Stp.mo hH s1), hH1, q1, fun y h2 v2 H2 s2 hH2 r2 q2 => ?_⟩
  exact ⟨x, y, h2, Q, RepV.mono (Stp.mo hH1 s2) _ r1, r2, hH2, q2, hc.step (s1.trans s2)⟩
theorem opR_of {f : Value → Value → Sem Value} {r' : R2} (h : ∀ x y H Q, r' x y H Q → ∃ r, OpR X f r ∧ r x y H Q) : OpR X f r' := fun pins s σ H x y v u Q I rx ry hr =>
  let ⟨r, ho, hq⟩ := h x y H Q hr
  ho pins s σ H x y v u Q I rx ry hq
theorem de_op {op : Operator} {r : R1} {a b : Expr} {ta tb : E1} {pos : Pos} (ho : OpR X (binaryOp op) (lowR X.kw r)) (ha : DE X a ta) (hb : DE X b tb) : DE X (.BinOp a op b pos) (dOp r ta tb) :=
  weakE (pe_op ho ha hb) fun _ _ _ h => low_op h
theorem de_cmpR {op : CmpOp} {r : R1} {a b : Expr} {ta tb : E1} {pos : Pos} (ho : OpR X (compareOp op) (lowR X.kw r)) (ha : DE X a ta) (hb : DE X b tb) (hm : behindInMarks op b = false) : DE X (.Compare a [op] [b] pos) (dOp r ta tb) :=
  weakE (pe_cmpR ho ha hb hm) fun _ _ _ h => low_op h
end
end DL
namespace DL
open PySem PySem.Spec PyProof.Rows L2
/-! ### texts -/
theorem okS.app {x y : Str} (a : okS x) (b : okS y) (h : x.length + y.length ≤ sizeLine) : okS (x ++ y) := by
  refine ⟨by rw [show (x ++ y).length = x.length + y.length from by show (x.cps ++ y.cps).size = _; rw [Array.size_append]; rfl]; exact h, ?_⟩
  have h1 := a.2
  have h2 := b.2
  unfold PyData.strOk at h1 h2 ⊢
  show (x.cps ++ y.cps).all _ = true
  rw [Array.all_append, h1, h2]; rfl
theorem okS.cut {x : Str} (a : okS x) (lo hi : Option Int) : okS (cutS x lo hi) := by
  refine ⟨Nat.le_trans (cutS_length _ _ _) a.1, ?_⟩
  have h1 := a.2
  unfold PyData.strOk at h1 ⊢
  unfold cutS
  rw [← Array.all_toList] at h1 ⊢
  rw [List.all_eq_true] at h1 ⊢
  intro c hc
  exact h1 c (List.mem_of_mem_drop (List.mem_of_mem_take hc))
theorem okS.one {x : Str} {i : Int} {c : Nat} (a : okS x) (h : atI x.cps.toList i = some c) : okS ⟨#[c]⟩ := by
  refine ⟨by show 1 ≤ sizeLine; decide, ?_⟩
  have h1 := a.2
  unfold PyData.strOk at h1 ⊢
  rw [← Array.all_toList] at h1 ⊢
  rw [List.all_eq_true] at h1 ⊢
  intro d hd
  have e : d = c := by simpa using hd
  subst e
  obtain ⟨j, _, hj, _⟩ := atI_get h
  exact h1 d (List.mem_of_getElem? hj)
/-! ### data as PyData -/
mutual
def pd : D → PyData
  | .none => .none
  | .bool b => .bool b
  | .int i => .int i
  | .str x => .str x
  | .tup ds => .tuple (pds ds)
  | .rol ds => .list (pds ds)
  | .ref _ => .none
  | .ty _ => .none
def pds : List D → List PyData
  | [] => []
  | d :: ds => pd d :: pds ds
end
mutual
/-- nothing that can change within; at most n deep -/
def pure? : Nat → D → Bool
  | _, .none => true
  | _, .bool _ => true
  | _, .int _ => true
  | _, .str _ => true
  | n + 1, .tup ds => pures? n ds
  | n + 1, .rol ds => pures? n ds
  | _, _ => false
def pures? : Nat → List D → Bool
  | _, [] => true
  | n, d :: ds => pure? n d && pures? n ds
end
theorem pures_all (n : Nat) : ∀ ds : List D, pures? n ds = ds.all (pure? n)
  | [] => by unfold pures?; rfl
  | d :: ds => by unfold pures?; rw [pures_all n ds]; rfl
mutual
theorem pd_depth : ∀ (n : Nat) (d : D), pure? n d = true → (pd d).depth ≤ n
  | n, .none, _ => by simp [pd, PyData.depth]
  | n, .bool _, _ => by simp [pd, PyData.depth]
  | n, .int _, _ => by simp [pd, PyData.depth]
  | n, .str _, _ => by simp [pd, PyData.depth]
  | 0, .tup ds, h => by simp [pure?] at h
  | n + 1, .tup ds, h => by
    have h' : pures? n ds = true := by simpa [pure?] using h
    have := pds_depth n ds h'
    simp only [pd, PyData.depth]; omega
  | 0, .rol ds, h => by simp [pure?] at h
  | n + 1, .rol ds, h => by
    have h' : pures? n ds = true := by simpa [pure?] using h
    have := pds_depth n ds h'
    simp only [pd, PyData.depth]; omega
  | n, .ref _, h => by simp [pure?] at h
  | n, .ty _, h => by simp [pure?] at h
theorem pds_depth : ∀ (n : Nat) (ds : List D), pures? n ds = true → PyData.depthAll (pds ds) ≤ n
  | n, [], _ => by simp [pds, PyData.depthAll]
  | n, d :: ds, h => by
    have h' : pure? n d = true ∧ pures? n ds = true := by simpa [pures?] using h
    have h1 := pd_depth n d h'.1
    have h2 := pds_depth n ds h'.2
    simp only [pds, PyData.depthAll]; omega
end
section
variable {K : KW} {H : Hp}
mutual
theorem pd_dp : ∀ (n : Nat) (d : D) (v : V), pure? n d = true → RepV K H d v → Dp K.F H v (pd d) ∧ (pd d).canLay0 = true
  | _, .none, v, _, r => by cases (show v = _ from r); exact ⟨.non, by simp [pd, PyData.canLay0]⟩
  | _, .bool b, v, _, r => by cases (show v = _ from r); exact ⟨.bl b, by simp [pd, PyData.canLay0]⟩
  | _, .int b, v, _, r => by cases (show v = _ from r); exact ⟨.int b, by simp [pd, PyData.canLay0]⟩
  | _, .str b, v, _, r => by
    obtain ⟨rfl, ok⟩ := (show v = _ ∧ okS b from r)
    exact ⟨.str b, by simp only [pd, PyData.canLay0]; exact ok.2⟩
  | 0, .tup ds, v, h, r => by simp [pure?] at h
  | n + 1, .tup ds, v, h, r => by
    have h' : pures? n ds = true := by simpa [pure?] using h
    obtain ⟨a, vs, rfl, s, q⟩ := r
    obtain ⟨x, y⟩ := pds_dp n ds vs h' q
    exact ⟨by simp only [pd]; exact .tup s x, by simp only [pd, PyData.canLay0]; exact y⟩
  | 0, .rol ds, v, h, r => by simp [pure?] at h
  | n + 1, .rol ds, v, h, r => by
    have h' : pures? n ds = true := by simpa [pure?] using h
    obtain ⟨a, vs, rfl, s, q⟩ := r
    obtain ⟨x, y⟩ := pds_dp n ds vs h' q
    exact ⟨by simp only [pd]; exact .lst s.sq x, by simp only [pd, PyData.canLay0]; exact y⟩
  | n, .ref _, v, h, r => by simp [pure?] at h
  | n, .ty _, v, h, r => by simp [pure?] at h
theorem pds_dp : ∀ (n : Nat) (ds : List D) (vs : List V), pures? n ds = true → RepVs K H ds vs → DpAll K.F H vs (pds ds) ∧ PyData.canLayAll0 (pds ds) = true
  | n, [], vs, _, r => by cases (show vs = [] from r); exact ⟨by simp only [pds]; exact .nil, by simp [pds, PyData.canLayAll0]⟩
  | n, d :: ds, vs, h, r => by
    have h' : pure? n d = true ∧ pures? n ds = true := by simpa [pures?] using h
    obtain ⟨v, rr, rfl, r1, r2⟩ := r
    obtain ⟨a, b⟩ := pd_dp n d v h'.1 r1
    obtain ⟨c, e⟩ := pds_dp n ds rr h'.2 r2
    exact ⟨by simp only [pds]; exact .cons a c, by simp only [pds, PyData.canLayAll0, b, e]; rfl⟩
end
/-- a list that stands in the heap, or data: as PyData -/
def viewL (ds : List D) : Option PyData := if pures? 60 ds = true then some (.list (pds ds)) else none
def viewP (d : D) : Option PyData := if pure? 60 d = true then some (pd d) else none
def viewO : Option MO → Option PyData
  | some (.lst ds) => viewL ds
  | _ => none
def view (h : MH) : D → Option PyData
  | .ref a => viewO (h a)
  | .none => viewP .none
  | .bool b => viewP (.bool b)
  | .int b => viewP (.int b)
  | .str b => viewP (.str b)
  | .tup b => viewP (.tup b)
  | .rol b => viewP (.rol b)
  | .ty _ => none
theorem viewP_dp {d : D} {v : V} {x : PyData} (r : RepV K H d v) (e : viewP d = some x) : Dp K.F H v x ∧ SeqAt.shaped x = true := by
  unfold viewP at e
  by_cases p : pure? 60 d = true
  · rw [if_pos p] at e
    cases e
    obtain ⟨a, b⟩ := pd_dp 60 d v p r
    refine ⟨a, ?_⟩
    unfold SeqAt.shaped
    rw [b, decide_eq_true (Nat.le_trans (pd_depth 60 d p) (by decide))]; rfl
  · rw [if_neg p] at e; cases e
theorem view_dp {h : MH} (hH : RepH K h H) : ∀ {d : D} {v : V} {x : PyData}, RepV K H d v → view h d = some x → Dp K.F H v x ∧ SeqAt.shaped x = true
  | .none, _, _, r, e => viewP_dp r e
  | .bool _, _, _, r, e => viewP_dp r e
  | .int _, _, _, r, e => viewP_dp r e
  | .str _, _, _, r, e => viewP_dp r e
  | .tup _, _, _, r, e => viewP_dp r e
  | .rol _, _, _, r, e => viewP_dp r e
  | .ty _, _, _, _, e => by cases e
  | .ref a, v, x, r, e => by
    have r' : v = .ref a := r
    subst r'
    have e : viewO (h a) = some x := e
    cases q : h a with
    | none => rw [q] at e; cases e
    | some o =>
      cases o with
      | lst ds =>
        rw [q] at e
        have e : viewL ds = some x := e
        unfold viewL at e
        by_cases p : pures? 60 ds = true
        · rw [if_pos p] at e
          cases e
          obtain ⟨vs, eH, rv⟩ := hH a _ q
          obtain ⟨a1, b1⟩ := pds_dp 60 ds vs p rv
          refine ⟨.lst (SqL.of eH) a1, ?_⟩
          have := pds_depth 60 ds p
          have dd : PyData.depth (.list (pds ds)) ≤ 64 := by simp only [PyData.depth]; omega
          unfold SeqAt.shaped
          rw [decide_eq_true dd]
          simp only [PyData.canLay0, b1]; rfl
        · rw [if_neg p] at e; cases e
      | dic _ => rw [q] at e; cases e
      | ins _ _ => rw [q] at e; cases e
end
/-! ### operators -/
def mulOk (i j : Int) : Prop := (-(2 ^ 64) < i ∧ i < 2 ^ 64) ∨ (-(2 ^ 64) < j ∧ j < 2 ^ 64)
def divOk (j : Int) : Prop := 0 < j ∧ j.natAbs.log2 < 9000
def addD : R1 := fun x y h Q => match x, y with
  | .int i, .int j => Q (.int (i + j)) h
  | .str a, .str b => a.length + b.length ≤ sizeLine ∧ Q (.str (a ++ b)) h
  | .tup a, .tup b => a.length + b.length ≤ sizeLine ∧ Q (.tup (a ++ b)) h
  | .ref p, .ref q => ∃ a b, h p = some (.lst a) ∧ h q = some (.lst b) ∧ a.length + b.length ≤ sizeLine ∧ ∀ l, h l = none → Q (.ref l) (up h l (.lst (a ++ b)))
  | _, _ => False
def subD : R1 := fun x y h Q => match x, y with
  | .int i, .int j => Q (.int (i - j)) h
  | _, _ => False
def mulD : R1 := fun x y h Q => match x, y with
  | .int i, .int j => mulOk i j ∧ Q (.int (i * j)) h
  | .ref p, .int k => ∃ a, h p = some (.lst a) ∧ (-(2 ^ 63) ≤ k ∧ k < 2 ^ 63) ∧ a.length * k.toNat ≤ sizeLine ∧ ∀ l, h l = none → Q (.ref l) (up h l (.lst (List.replicate k.toNat a).flatten))
  | _, _ => False
def fdivD : R1 := fun x y h Q => match x, y with
  | .int i, .int j => divOk j ∧ Q (.int (i / j)) h
  | _, _ => False
def modD : R1 := fun x y h Q => match x, y with
  | .int i, .int j => 0 < j ∧ Q (.int (i % j)) h
  | _, _ => False
def powD : R1 := fun x y h Q => match x, y with
  | .int i, .int j => CPow i j ∧ Q (.int (i ^ j.toNat)) h
  | _, _ => False
def shlD : R1 := fun x y h Q => match x, y with
  | .int i, .int j => CPow i j ∧ Q (.int (i * 2 ^ j.toNat)) h
  | _, _ => False
def shrD : R1 := fun x y h Q => match x, y with
  | .int i, .int j => 0 ≤ j ∧ Q (.int (i / 2 ^ j.toNat)) h
  | _, _ => False
def andD : R1 := fun x y h Q => match x, y with
  | .int i, .int j => Q (.int (Builtin.bitAnd i j)) h
  | _, _ => False
section
variable {K : KW} {h : MH} {H : Hp} {Q : KD} {QV : VK}
theorem Cl.int (c : Cl K h H Q QV) (hH : RepH K h H) {i : Int} (q : Q (.int i) h) : QV (.int i) H := c (.int i) h _ H Stp.refl hH rfl q
theorem Cl.bl (c : Cl K h H Q QV) (hH : RepH K h H) {i : Bool} (q : Q (.bool i) h) : QV (.bl i) H := c (.bool i) h _ H Stp.refl hH rfl q
theorem Cl.non (c : Cl K h H Q QV) (hH : RepH K h H) (q : Q .none h) : QV .non H := c .none h _ H Stp.refl hH rfl q
theorem Cl.str (c : Cl K h H Q QV) (hH : RepH K h H) {x : Str} (o : okS x) (q : Q (.str x) h) : QV (.str x) H := c (.str x) h _ H Stp.refl hH ⟨rfl, o⟩ q
theorem Cl.val (c : Cl K h H Q QV) (hH : RepH K h H) {d : D} {v : V} (r : RepV K H d v) (q : Q d h) : QV v H := c d h _ H Stp.refl hH r q
theorem Cl.new (c : Cl K h H Q QV) (hH : RepH K h H) {l : Addr} (n : H l = none) {ds : List D} {vs : List V} (r : RepVs K H ds vs) (q : Q (.ref l) (up h l (.lst ds))) : QV (.ref l) (upd H l (.lst vs)) :=
  c (.ref l) _ _ _ (Stp.new n) (hH.new n r) rfl q
theorem Cl.tup (c : Cl K h H Q QV) (hH : RepH K h H) {l : Addr} (n : H l = none) {ds : List D} {vs : List V} (r : RepVs K H ds vs) (q : Q (.tup ds) h) : QV (.ref l) (upd H l (.tup vs)) :=
  c (.tup ds) h _ _ (Stp.hide n) (hH.hide n) ⟨l, vs, rfl, .inl (.inl upd_same), RepVs.mono (Stp.mo hH (Stp.hide n)) _ r⟩ q
theorem Cl.write (c : Cl K h H Q QV) (hH : RepH K h H) {l : Addr} {d0 : List D} (e : h l = some (.lst d0)) {ds : List D} {vs : List V} (r : RepVs K H ds vs) {d : D} {v : V} (rv : RepV K H d v) (q : Q d (up h l (.lst ds))) : QV v (upd H l (.lst vs)) :=
  c d _ _ _ (Stp.write e) (hH.write e r) (RepV.mono (Stp.mo hH (Stp.write (u := .lst ds) e)) _ rv) q
end
section
variable {X : Cx}
theorem od_add : OpR X (binaryOp .Add) (lowR X.kw addD) := opR_of fun x y H QV ⟨d, e, h, Q, rx, ry, hH, hr, hc⟩ => by
  cases d <;> cases e <;> try exact hr.elim
  case int.int i j => exact ⟨_, op_add, i, j, rx, ry, hc.int hH hr⟩
  case str.str a b =>
    obtain ⟨rx, ox⟩ := rx
    obtain ⟨ry, oy⟩ := ry
    exact ⟨_, op_add_str, a, b, rx, ry, hr.1, hc.str hH (ox.app oy hr.1) hr.2⟩
  case tup.tup a b =>
    obtain ⟨p, vs, rfl, s1, r1⟩ := rx
    obtain ⟨q, us, rfl, s2, r2⟩ := ry
    have hl : vs.length + us.length ≤ sizeLine := by rw [← r1.length, ← r2.length]; exact hr.1
    have rr : RepVs X.kw H (a ++ b) (vs ++ us) := .of (P2.append r1.pair r2.pair)
    refine ⟨_, op_catA, p, q, vs, us, rfl, rfl, s1, s2, hl, fun z => ?_, fun _ z => ?_, fun _ _ l n => hc.tup hH n rr hr.2⟩
    · subst z
      have e : a = [] := List.eq_nil_of_length_eq_zero r1.length
      subst e
      exact hc.val hH (d := .tup b) ⟨q, us, rfl, s2, r2⟩ hr.2
    · subst z
      have e : b = [] := List.eq_nil_of_length_eq_zero r2.length
      subst e
      have q2 := hr.2
      rw [List.append_nil] at q2
      exact hc.val hH (d := .tup a) ⟨p, vs, rfl, s1, r1⟩ q2
  case ref.ref p q =>
    obtain ⟨a, b, e1, e2, hl, k⟩ := hr
    cases (show x = _ from rx)
    cases (show y = _ from ry)
    obtain ⟨vs, f1, r1⟩ := hH _ _ e1
    obtain ⟨us, f2, r2⟩ := hH _ _ e2
    refine ⟨_, op_cat, p, q, vs, us, rfl, rfl, f1, f2, by rw [← r1.length, ← r2.length]; exact hl, fun l n => ?_⟩
    exact hc.new hH n (.of (P2.append r1.pair r2.pair)) (k l (hH.nofresh n))
theorem od_sub : OpR X (binaryOp .Sub) (lowR X.kw subD) := opR_of fun x y H QV ⟨d, e, h, Q, rx, ry, hH, hr, hc⟩ => by
  cases d <;> cases e <;> try exact hr.elim
  case int.int i j => exact ⟨_, op_sub, i, j, rx, ry, hc.int hH hr⟩
theorem P2.rep {α β : Type} {R : α → β → Prop} {xs : List α} {us : List β} (h : Paired R xs us) : ∀ k : Nat, Paired R (List.replicate k xs).flatten (List.replicate k us).flatten
  | 0 => .nil
  | k + 1 => by rw [List.replicate_succ, List.replicate_succ, List.flatten_cons, List.flatten_cons]; exact P2.append h (P2.rep h k)
theorem od_mul : OpR X (binaryOp .Mult) (lowR X.kw mulD) := opR_of fun x y H QV ⟨d, e, h, Q, rx, ry, hH, hr, hc⟩ => by
  cases d <;> cases e <;> try exact hr.elim
  case int.int i j => exact ⟨_, op_mul, i, j, rx, ry, hr.1, hc.int hH hr.2⟩
  case ref.int p k =>
    obtain ⟨a, e1, hk, hl, q⟩ := hr
    cases (show x = _ from rx)
    cases (show y = _ from ry)
    obtain ⟨vs, f1, r1⟩ := hH _ _ e1
    refine ⟨_, op_rep, p, k, vs, rfl, rfl, f1, hk.1, hk.2, by rw [← r1.length]; exact hl, fun l n => ?_⟩
    exact hc.new hH n (.of (P2.rep r1.pair _)) (q l (hH.nofresh n))
theorem od_fdiv : OpR X (binaryOp .FloorDiv) (lowR X.kw fdivD) := opR_of fun x y H QV ⟨d, e, h, Q, rx, ry, hH, hr, hc⟩ => by
  cases d <;> cases e <;> try exact hr.elim
  case int.int i j => exact ⟨_, op_fdivW, i, j, rx, ry, hr.1, hc.int hH hr.2⟩
theorem od_mod : OpR X (binaryOp .Mod) (lowR X.kw modD) := opR_of fun x y H QV ⟨d, e, h, Q, rx, ry, hH, hr, hc⟩ => by
  cases d <;> cases e <;> try exact hr.elim
  case int.int i j => exact ⟨_, op_mod, i, j, rx, ry, hr.1, hc.int hH hr.2⟩
theorem od_pow : OpR X (binaryOp .Pow) (lowR X.kw powD) := opR_of fun x y H QV ⟨d, e, h, Q, rx, ry, hH, hr, hc⟩ => by
  cases d <;> cases e <;> try exact hr.elim
  case int.int i j => exact ⟨_, op_pow, i, j, rx, ry, hr.1, hc.int hH hr.2⟩
theorem od_shl : OpR X (binaryOp .LShift) (lowR X.kw shlD) := opR_of fun x y H QV ⟨d, e, h, Q, rx, ry, hH, hr, hc⟩ => by
  cases d <;> cases e <;> try exact hr.elim
  case int.int i j => exact ⟨_, op_shl, i, j, rx, ry, hr.1, hc.int hH hr.2⟩
theorem od_shr : OpR X (binaryOp .RShift) (lowR X.kw shrD) := opR_of fun x y H QV ⟨d, e, h, Q, rx, ry, hH, hr, hc⟩ => by
  cases d <;> cases e <;> try exact hr.elim
  case int.int i j => exact ⟨_, op_shr, i, j, rx, ry, hr.1, hc.int hH hr.2⟩
theorem od_and : OpR X (binaryOp .BitAnd) (lowR X.kw andD) := opR_of fun x y H QV ⟨d, e, h, Q, rx, ry, hH, hr, hc⟩ => by
  cases d <;> cases e <;> try exact hr.elim
  case int.int i j => exact ⟨_, op_and, i, j, rx, ry, hc.int hH hr⟩
/-! ### comparisons -/
def eqvO : Option PyData → Option PyData → (Bool → Prop) → Prop
  | some x, some y, k => k (PyData.eqv x y)
  | _, _, _ => False
def eqD : R1 := fun x y h Q => eqvO (view h x) (view h y) fun b => Q (.bool b) h
def neD : R1 := fun x y h Q => eqvO (view h x) (view h y) fun b => Q (.bool (!b)) h
theorem od_eq (hu : X.A.units + 64 < cLine) : OpR X (compareOp .Eq) (lowR X.kw eqD) := opR_of fun x y H QV ⟨d, e, h, Q, rx, ry, hH, hr, hc⟩ => by
  unfold eqD at hr
  cases e1 : view h d with
  | none => rw [e1] at hr; exact hr.elim
  | some p =>
    cases e2 : view h e with
    | none => rw [e1, e2] at hr; exact hr.elim
    | some q =>
      rw [e1, e2] at hr
      obtain ⟨a1, b1⟩ := view_dp hH rx e1
      obtain ⟨a2, b2⟩ := view_dp hH ry e2
      exact ⟨_, op_eqD hu, p, q, a1, a2, b1, b2, hc.bl hH hr⟩
theorem od_ne (hu : X.A.units + 64 < cLine) : OpR X (compareOp .NotEq) (lowR X.kw neD) := opR_of fun x y H QV ⟨d, e, h, Q, rx, ry, hH, hr, hc⟩ => by
  unfold neD at hr
  cases e1 : view h d with
  | none => rw [e1] at hr; exact hr.elim
  | some p =>
    cases e2 : view h e with
    | none => rw [e1, e2] at hr; exact hr.elim
    | some q =>
      rw [e1, e2] at hr
      obtain ⟨a1, b1⟩ := view_dp hH rx e1
      obtain ⟨a2, b2⟩ := view_dp hH ry e2
      exact ⟨_, op_neD hu, p, q, a1, a2, b1, b2, hc.bl hH hr⟩
def ltS (a b : Str) : Bool := decide (a.cps.toList < b.cps.toList)
def ltD : R1 := fun x y h Q => match x, y with
  | .int i, .int j => Q (.bool (decide (i < j))) h
  | .str i, .str j => Q (.bool (ltS i j)) h
  | _, _ => False
def leD : R1 := fun x y h Q => match x, y with
  | .int i, .int j => Q (.bool (decide (i ≤ j))) h
  | .str i, .str j => Q (.bool (!ltS j i)) h
  | _, _ => False
def gtD : R1 := fun x y h Q => match x, y with
  | .int i, .int j => Q (.bool (decide (j < i))) h
  | .str i, .str j => Q (.bool (ltS j i)) h
  | _, _ => False
def geD : R1 := fun x y h Q => match x, y with
  | .int i, .int j => Q (.bool (decide (j ≤ i))) h
  | .str i, .str j => Q (.bool (!ltS i j)) h
  | _, _ => False
theorem od_lt : OpR X (compareOp .Lt) (lowR X.kw ltD) := opR_of fun x y H QV ⟨d, e, h, Q, rx, ry, hH, hr, hc⟩ => by
  cases d <;> cases e <;> try exact hr.elim
  case int.int i j => exact ⟨_, op_lt, i, j, rx, ry, hc.bl hH hr⟩
  case str.str i j => exact ⟨_, op_lt_str, i, j, rx.1, ry.1, hc.bl hH hr⟩
theorem od_le : OpR X (compareOp .LtE) (lowR X.kw leD) := opR_of fun x y H QV ⟨d, e, h, Q, rx, ry, hH, hr, hc⟩ => by
  cases d <;> cases e <;> try exact hr.elim
  case int.int i j => exact ⟨_, op_le, i, j, rx, ry, hc.bl hH hr⟩
  case str.str i j => exact ⟨_, op_le_str, i, j, rx.1, ry.1, hc.bl hH hr⟩
theorem od_gt : OpR X (compareOp .Gt) (lowR X.kw gtD) := opR_of fun x y H QV ⟨d, e, h, Q, rx, ry, hH, hr, hc⟩ => by
  cases d <;> cases e <;> try exact hr.elim
  case int.int i j => exact ⟨_, op_gt, i, j, rx, ry, hc.bl hH hr⟩
  case str.str i j => exact ⟨_, op_gt_str, i, j, rx.1, ry.1, hc.bl hH hr⟩
theorem od_ge : OpR X (compareOp .GtE) (lowR X.kw geD) := opR_of fun x y H QV ⟨d, e, h, Q, rx, ry, hH, hr, hc⟩ => by
  cases d <;> cases e <;> try exact hr.elim
  case int.int i j => exact ⟨_, op_ge, i, j, rx, ry, hc.bl hH hr⟩
  case str.str i j => exact ⟨_, op_ge_str, i, j, rx.1, ry.1, hc.bl hH hr⟩
end
end DL
namespace DL
open PySem PySem.Spec PyProof.Rows L2
/-! ### dicts, on the data level -/
def dget (kvs : Kvs) (k : D) : Option D := (kvs.find? fun p => decide (nk p.1 = nk k)).map (·.2)
def dset (kvs : Kvs) (k v : D) : Kvs := if (dget kvs k).isSome = true then kvs.map (fun p => if nk p.1 = nk k then (p.1, v) else p) else kvs ++ [(k, v)]
/-- all keys are numbers and texts, or all are tuples -/
def fit (kvs : Kvs) (k : D) : Bool := ((scaK k).isSome && kvs.all fun p => (scaK p.1).isSome) || (tupK k && kvs.all fun p => tupK p.1)
def RO {α β : Type} (R : α → β → Prop) : Option α → Option β → Prop
  | none, none => True
  | some a, some b => R a b
  | _, _ => False
theorem RO.isSome {α β : Type} {R : α → β → Prop} : ∀ {x : Option α} {y : Option β}, RO R x y → y.isSome = x.isSome
  | none, none, _ => rfl
  | some _, some _, _ => rfl
theorem RO.some_ {α β : Type} {R : α → β → Prop} : ∀ {x : Option α} {y : Option β} {a : α}, RO R x y → x = some a → ∃ b, y = some b ∧ R a b
  | some _, some b, _, r, e => by cases e; exact ⟨b, rfl, r⟩
/-- the key of a number, a text -/
def kNK : L2.Key → NK
  | .inl i => .num i
  | .inr x => .text x
theorem kNK_inj {a b : L2.Key} (h : kNK a = kNK b) : a = b := by
  cases a <;> cases b <;> (unfold kNK at h; cases h) <;> rfl
theorem scaK_nk {d : D} {k : L2.Key} (h : scaK d = some k) : nk d = some (kNK k) := by
  cases d <;> first | (cases h; done) | (cases h; rfl)
section
variable {K : KW} {H : Hp}
theorem dget_K {kvs : Kvs} {kv : List (L2.Key × V)} {d : D} {k : L2.Key} (r : RepKs K H kvs kv) (e : scaK d = some k) : RO (RepV K H) (dget kvs d) (valV kv k) := by
  induction r with
  | nil => exact True.intro
  | @cons p q ps qs h t ih =>
    have e1 := scaK_nk h.1
    have e2 := scaK_nk e
    unfold dget at ih ⊢
    by_cases z : q.1 = k
    · rw [List.find?_cons_of_pos (by simp [e1, e2, z]), valV_pos z]
      exact h.2.2
    · rw [List.find?_cons_of_neg (by rw [e1, e2]; simp only [Option.some.injEq, decide_eq_true_eq]; exact fun y => z (kNK_inj y)), valV_neg z]
      exact ih
theorem dget_N {kvs : Kvs} {xs : List Ent} {d : D} {k : NK} (r : RepNs K H kvs xs) (e : nk d = some k) : RO (RepV K H) (dget kvs d) (entAt xs k) := by
  induction r with
  | nil => exact True.intro
  | @cons p q ps qs h t ih =>
    unfold dget entAt at ih ⊢
    by_cases z : q.1 = k
    · rw [List.find?_cons_of_pos (by simp [h.1, e, z]), List.find?_cons_of_pos (by simp [z])]
      exact h.2.2
    · rw [List.find?_cons_of_neg (by simp [h.1, e, z]), List.find?_cons_of_neg (by simp [z])]
      exact ih
theorem repl_K {kvs : Kvs} {kv : List (L2.Key × V)} {d e : D} {k : L2.Key} {z : V} (r : RepKs K H kvs kv) (ek : scaK d = some k) (re : RepV K H e z) :
    RepKs K H (kvs.map (fun p => if nk p.1 = nk d then (p.1, e) else p)) (kv.map fun x => if x.1 = k then (x.1, z) else x) := by
  induction r with
  | nil => exact .nil
  | @cons p q ps qs h t ih =>
    rw [List.map_cons, List.map_cons]
    refine .cons ?_ ih
    have e1 := scaK_nk h.1
    have e2 := scaK_nk ek
    by_cases y : q.1 = k
    · rw [if_pos (by rw [e1, e2, y]), if_pos y]; exact ⟨h.1, h.2.1, re⟩
    · rw [if_neg (by rw [e1, e2]; intro w; exact y (kNK_inj (Option.some.inj w))), if_neg y]; exact h
theorem dset_K {kvs : Kvs} {kv : List (L2.Key × V)} {d e : D} {k : L2.Key} {v z : V} (r : RepKs K H kvs kv) (ek : scaK d = some k) (rd : RepV K H d v) (re : RepV K H e z) : RepKs K H (dset kvs d e) (putK kv k z) := by
  have iso := (dget_K r ek).isSome
  unfold dset putK
  rw [valV_any, iso]
  split
  · exact repl_K r ek re
  · exact Paired.snoc r ⟨ek, by rw [← sca_rep rd ek]; exact rd, re⟩
theorem repl_N {kvs : Kvs} {xs : List Ent} {d e : D} {k : NK} {z : V} (r : RepNs K H kvs xs) (ek : nk d = some k) (re : RepV K H e z) :
    RepNs K H (kvs.map (fun p => if nk p.1 = nk d then (p.1, e) else p)) (xs.map fun x => if x.1 = k then (x.1, x.2.1, z) else x) := by
  induction r with
  | nil => exact .nil
  | @cons p q ps qs h t ih =>
    rw [List.map_cons, List.map_cons]
    refine .cons ?_ ih
    by_cases y : q.1 = k
    · rw [if_pos (by rw [h.1, ek, y]), if_pos y]; exact ⟨h.1, h.2.1, re⟩
    · rw [if_neg (by rw [h.1, ek]; intro w; exact y (Option.some.inj w)), if_neg y]; exact h
theorem dset_N {kvs : Kvs} {xs : List Ent} {d e : D} {k : NK} {v z : V} (r : RepNs K H kvs xs) (ek : nk d = some k) (rd : RepV K H d v) (re : RepV K H e z) : RepNs K H (dset kvs d e) (entPut xs k v z) := by
  have iso := (dget_N r ek).isSome
  unfold dset entPut
  rw [iso]
  split
  · exact repl_N r ek re
  · exact Paired.snoc r ⟨ek, rd, re⟩
theorem dset_len (kvs : Kvs) (k v : D) : (dset kvs k v).length ≤ kvs.length + 1 := by
  unfold dset; split
  · rw [List.length_map]; exact Nat.le_succ _
  · rw [List.length_append]; exact Nat.le_refl _
theorem dset_all {kvs : Kvs} {k v : D} {P : D → Bool} (h : kvs.all (fun p => P p.1) = true) (hk : P k = true) : (dset kvs k v).all (fun p => P p.1) = true := by
  unfold dset; split
  · rw [List.all_map]
    rw [List.all_eq_true] at h ⊢
    intro p hp
    show P (if nk p.1 = nk k then (p.1, v) else p).1 = true
    split <;> exact h p hp
  · rw [List.all_append, h]; simp [hk]
theorem upd_id {a : Addr} {o : HO} (e : H a = some o) : upd H a o = H := by
  funext b; unfold upd; split
  · rename_i z; rw [z, e]
  · rfl
/-- values don't change by an object that is not hidden -/
theorem Mo.upd {a : Addr} {o u : HO} (e : H a = some u) (n : hid u = false) : Mo K H (L2.upd H a o) := by
  have t : ∀ b x, hid x = true → H b = some x → L2.upd H a o b = some x := fun b x hx q => by
    rw [upd_ne]; exact q
    intro z; rw [z, e] at q; cases q; rw [n] at hx; cases hx
  refine ⟨fun b xs q => ?_, fun b xs q => ?_⟩
  · rcases q with (q | ⟨x, q⟩) | q
    · exact .inl (.inl (t b _ rfl q))
    · exact .inl (.inr ⟨x, t b _ rfl q⟩)
    · exact .inr q
  · rcases q with ⟨x, q⟩ | q
    · exact .inl ⟨x, t b _ rfl q⟩
    · exact .inr q
theorem RepKs.mono {H' : Hp} (m : Mo K H H') {kvs : Kvs} {kv : List (L2.Key × V)} (r : RepKs K H kvs kv) : RepKs K H' kvs kv := P2.mono (fun _ _ z => ⟨z.1, RepV.mono m _ z.2.1, RepV.mono m _ z.2.2⟩) r
theorem RepNs.mono {H' : Hp} (m : Mo K H H') {kvs : Kvs} {xs : List Ent} (r : RepNs K H kvs xs) : RepNs K H' kvs xs := P2.mono (fun _ _ z => ⟨z.1, RepV.mono m _ z.2.1, RepV.mono m _ z.2.2⟩) r
theorem RepKs.nil_ {kv : List (L2.Key × V)} (r : RepKs K H [] kv) : kv = [] := by cases r; rfl
theorem RepNs.nil_ {xs : List Ent} (r : RepNs K H [] xs) : xs = [] := by cases r; rfl
end
section
variable {X : Cx} {pins : List (Addr × Obj)} {σ : L2.St} {H : Hp} {a : Addr} {kvs : Kvs} {d e : D} {v : V} {u : Value}
/-- the dict as one of numbers and texts -/
structure AsK (X : Cx) (pins : List (Addr × Obj)) (σ : L2.St) (H : Hp) (a : Addr) (kvs : Kvs) where
  kv : List (L2.Key × V)
  rep : RepKs X.kw H kvs kv
  to_ : ∀ s, Inv X pins σ H s → Inv X pins σ (upd H a (.dK kv)) s
  from_ : ∀ s, Inv X pins σ (upd H a (.dK kv)) s → Inv X pins σ H s
  mo : ∀ o, Mo X.kw H (upd H a o)
/-- the dict as one of tuples -/
structure AsN (X : Cx) (pins : List (Addr × Obj)) (σ : L2.St) (H : Hp) (a : Addr) (kvs : Kvs) where
  xs : List Ent
  rep : RepNs X.kw H kvs xs
  dic : NDict X (upd H a (dobj X.w a xs)) a xs
  to_ : ∀ s, Inv X pins σ H s → Inv X pins σ (upd H a (dobj X.w a xs)) s
  from_ : ∀ s, Inv X pins σ (upd H a (dobj X.w a xs)) s → Inv X pins σ H s
  mo : ∀ o, Mo X.kw H (upd H a o)
theorem RepNs.keys (r : RepNs X.kw H kvs xs) (t : ∀ p ∈ kvs, tupK p.1 = true) : ∀ x ∈ xs, (∃ ks, x.1 = .tup ks) ∧ x.1.depth ≤ 8 ∧ KIs X.K H x.1 x.2.1 := by
  induction r with
  | nil => intro x hx; simp at hx
  | @cons p q ps qs h _ ih =>
    intro x hx
    rcases List.mem_cons.mp hx with rfl | hx
    · obtain ⟨ks, e1, e2⟩ := tupK_some (t p (by simp))
      have e3 := h.1
      rw [e1] at e3
      have e4 := Option.some.inj e3
      exact ⟨⟨ks, e4.symm⟩, by rw [← e4]; exact e2, nk_kis (K := X.kw) _ h.2.1 h.1⟩
    · exact ih (fun p hp => t p (by simp [hp])) x hx
theorem low_of {s : Shared} (I : Inv X pins σ H s) {kv : List (L2.Key × V)} (e : H a = some (.dK kv)) : (a == sysModules) = false ∧ kv.length ≤ sizeLine := let ⟨z, b, _⟩ := dk_of I.hok e; ⟨b, z⟩
theorem as_K {s : Shared} (I : Inv X pins σ H s) (r : RepO X.kw H a (.dic kvs)) (h : kvs.all (fun p => (scaK p.1).isSome) = true) : Nonempty (AsK X pins σ H a kvs) := by
  rcases r with ⟨kv, e, r⟩ | ⟨xs, r⟩
  · exact ⟨⟨kv, r, fun s I => by rw [upd_id e]; exact I, fun s I => by rw [upd_id e] at I; exact I, fun o => Mo.upd e rfl⟩⟩
  · cases kvs with
    | nil =>
      have ex := r.rep.nil_
      subst ex
      refine ⟨⟨[], .nil, fun s I => empty_k I r.at_ r.low, fun s I => ?_, fun o => Mo.upd r.at_ rfl⟩⟩
      have J := empty_n I upd_same
      rw [upd_upd] at J
      have z : upd H a (dobj X.w a []) = H := upd_id r.at_
      rw [z] at J; exact J
    | cons p ps =>
      have h1 := r.tup p (by simp)
      have h2 : (scaK p.1).isSome = true := by rw [List.all_cons, Bool.and_eq_true] at h; exact h.1
      cases q : p.1 <;> rw [q] at h1 h2 <;> first | (cases h1; done) | (cases h2; done)
theorem as_N {s : Shared} (I : Inv X pins σ H s) (r : RepO X.kw H a (.dic kvs)) (h : kvs.all (fun p => tupK p.1) = true) : Nonempty (AsN X pins σ H a kvs) := by
  have t : ∀ p ∈ kvs, tupK p.1 = true := fun p hp => (List.all_eq_true.mp h) p hp
  rcases r with ⟨kv, e, r⟩ | ⟨xs, r⟩
  · cases kvs with
    | nil =>
      have ex := r.nil_
      subst ex
      obtain ⟨low, _⟩ := low_of I e
      refine ⟨⟨[], .nil, ⟨upd_same, low, Nat.zero_le _, by simp, by simp⟩, fun s I => empty_n I e, fun s I => ?_, fun o => Mo.upd e rfl⟩⟩
      have J := empty_k I upd_same low
      rw [upd_upd] at J
      have z : upd H a (.dK []) = H := upd_id e
      rw [z] at J; exact J
    | cons p ps =>
      cases r with
      | cons q _ =>
        have h1 := t p (by simp)
        have h2 := q.1
        cases y : p.1 <;> rw [y] at h1 h2 <;> first | (cases h1; done) | (cases h2; done)
  · have z : upd H a (dobj X.w a xs) = H := upd_id r.at_
    exact ⟨⟨xs, r.rep, ⟨upd_same, r.low, by rw [← r.rep.length]; exact r.len, by rw [z]; exact r.rep.keys t, r.nd⟩, fun s I => by rw [z]; exact I, fun s I => by rw [z] at I; exact I, fun o => Mo.upd r.at_ rfl⟩⟩
theorem fit_or (h : fit kvs d = true) : (∃ k, scaK d = some k ∧ kvs.all (fun p => (scaK p.1).isSome) = true) ∨ (∃ k, nk d = some k ∧ tupK d = true ∧ kvs.all (fun p => tupK p.1) = true) := by
  unfold fit at h
  rw [Bool.or_eq_true, Bool.and_eq_true, Bool.and_eq_true] at h
  rcases h with h | h
  · obtain ⟨k, e⟩ := Option.isSome_iff_exists.mp h.1
    exact .inl ⟨k, e, h.2⟩
  · obtain ⟨ks, e, _⟩ := tupK_some h.1
    exact .inr ⟨_, e, h.1, h.2⟩
theorem nkey_of {k : NK} {H : Hp} (t : tupK d = true) (e : nk d = some k) (r : RepV X.kw H d v) : NKey X H k v := by
  obtain ⟨ks, e2, dp⟩ := tupK_some t
  rw [e] at e2
  have e3 := Option.some.inj e2
  exact ⟨⟨ks, e3⟩, by rw [e3]; exact dp, nk_kis (K := X.kw) _ r e⟩
/-! the operations -/
def VO (K : KW) (H : Hp) (e : D) (w : Value) : Prop := ∃ z, RelV z w ∧ RepV K H e z
variable {s : Shared} {E : Value → Shared → Prop}
theorem RO.getD {α β : Type} {R : α → β → Prop} {x : Option α} {y : Option β} {a : α} {b : β} (r : RO R x y) (h : R a b) : R (x.getD a) (y.getD b) := by
  cases x <;> cases y <;> first | exact h | exact r | exact (show False from r).elim
theorem mo_back {H H' : Hp} (m : Mo X.kw H H') {d : D} {v : V} (r : RepV X.kw H d v) : RepV X.kw H' d v := RepV.mono m _ r
theorem dd_getItem {Q : Value → Shared → Prop} {f : D} (hu : X.A.units + 64 < cLine) (I : Inv X pins σ H s) (ro : RepO X.kw H a (.dic kvs)) (rd : RepV X.kw H d v) (ru : RelV v u) (hf : fit kvs d = true) (hg : dget kvs d = some f)
    (h : ∀ w s', Inv X pins σ H s' → VO X.kw H f w → Q w s') : wpAny (model X.prog X.w) X.A (getItem (.ref a) u) Q E s := by
  rcases fit_or hf with ⟨k, ek, al⟩ | ⟨k, ek, tk, al⟩
  · obtain ⟨A⟩ := as_K I ro al
    obtain ⟨z, hz, rz⟩ := (dget_K A.rep ek).some_ hg
    cases sca_rep rd ek
    refine d_getItem (by omega) (A.to_ s I) (.inl ⟨A.kv, k, .inl upd_same, rfl, hz.symm⟩) ru fun w' s' I' rw' => h w' s' (A.from_ s' I') ⟨z, rw', rz⟩
  · obtain ⟨A⟩ := as_N I ro al
    obtain ⟨z, hz, rz⟩ := (dget_N A.rep ek).some_ hg
    exact n_getItem hu (A.to_ s I) A.dic (nkey_of tk ek (mo_back (A.mo _) rd)) ru hz fun w' s' I' rw' => h w' s' (A.from_ s' I') ⟨z, rw', rz⟩
theorem dd_in {Q : Value → Shared → Prop} (hu : X.A.units + 64 < cLine) (I : Inv X pins σ H s) (ro : RepO X.kw H a (.dic kvs)) (rd : RepV X.kw H d v) (ru : RelV v u) (hf : fit kvs d = true)
    (h : ∀ s', Inv X pins σ H s' → Q (.bool (dget kvs d).isSome) s') : wpAny (model X.prog X.w) X.A (compareOp .In u (.ref a)) Q E s := by
  rcases fit_or hf with ⟨k, ek, al⟩ | ⟨k, ek, tk, al⟩
  · obtain ⟨A⟩ := as_K I ro al
    cases sca_rep rd ek
    refine d_in (o := valV A.kv k) (by omega) (A.to_ s I) (.inl ⟨A.kv, k, .inl upd_same, rfl, rfl⟩) ru fun s' I' => ?_
    rw [(dget_K A.rep ek).isSome]; exact h s' (A.from_ s' I')
  · obtain ⟨A⟩ := as_N I ro al
    refine n_in hu (A.to_ s I) A.dic (nkey_of tk ek (mo_back (A.mo _) rd)) ru fun s' I' => ?_
    rw [(dget_N A.rep ek).isSome]; exact h s' (A.from_ s' I')
theorem dd_notIn {Q : Value → Shared → Prop} (hu : X.A.units + 64 < cLine) (I : Inv X pins σ H s) (ro : RepO X.kw H a (.dic kvs)) (rd : RepV X.kw H d v) (ru : RelV v u) (hf : fit kvs d = true)
    (h : ∀ s', Inv X pins σ H s' → Q (.bool (!(dget kvs d).isSome)) s') : wpAny (model X.prog X.w) X.A (compareOp .NotIn u (.ref a)) Q E s := by
  rcases fit_or hf with ⟨k, ek, al⟩ | ⟨k, ek, tk, al⟩
  · obtain ⟨A⟩ := as_K I ro al
    cases sca_rep rd ek
    refine d_notIn (o := valV A.kv k) (by omega) (A.to_ s I) (.inl ⟨A.kv, k, .inl upd_same, rfl, rfl⟩) ru fun s' I' => ?_
    rw [(dget_K A.rep ek).isSome]; exact h s' (A.from_ s' I')
  · obtain ⟨A⟩ := as_N I ro al
    refine n_notIn hu (A.to_ s I) A.dic (nkey_of tk ek (mo_back (A.mo _) rd)) ru fun s' I' => ?_
    rw [(dget_N A.rep ek).isSome]; exact h s' (A.from_ s' I')
theorem dd_setItem {Q : Unit → Shared → Prop} {z : V} {uz : Value} (hu : X.A.units + 64 < cLine) (I : Inv X pins σ H s) (ro : RepO X.kw H a (.dic kvs)) (rd : RepV X.kw H d v) (ru : RelV v u) (re : RepV X.kw H e z) (rz : RelV z uz) (hf : fit kvs d = true)
    (hl : kvs.length < sizeLine) (h : ∀ s' o, Inv X pins σ (upd H a o) s' → RepO X.kw (upd H a o) a (.dic (dset kvs d e)) → Q () s') : wpAny (model X.prog X.w) X.A (setItem (.ref a) u uz) Q E s := by
  rcases fit_or hf with ⟨k, ek, al⟩ | ⟨k, ek, tk, al⟩
  · obtain ⟨A⟩ := as_K I ro al
    cases sca_rep rd ek
    have rs := dset_K A.rep ek rd re
    refine d_setItem (H' := upd H a (.dK (putK A.kv k z))) (by omega) (A.to_ s I) (.inl ⟨A.kv, k, upd_same, rfl, by rw [← A.rep.length]; exact hl, by rw [upd_upd]⟩) ru rz fun s' I' => ?_
    exact h s' _ I' (.inl ⟨_, upd_same, rs.mono (A.mo _)⟩)
  · obtain ⟨A⟩ := as_N I ro al
    have rs := dset_N A.rep ek rd re
    have nk' := nkey_of tk ek (mo_back (A.mo (dobj X.w a A.xs)) rd)
    refine n_setItem hu (A.to_ s I) A.dic nk' ru rz fun s' I' => ?_
    rw [upd_upd] at I'
    refine h s' _ I' (.inr ⟨_, ⟨upd_same, rs.mono (A.mo _), ?_, entPut_nd _ _ _ A.dic.nd, ?_, A.dic.low⟩⟩)
    · exact fun p hp => List.all_eq_true.mp (dset_all al tk) p hp
    · exact Nat.le_trans (dset_len _ _ _) hl
theorem dd_get2 {Q : Value → Shared → Prop} {z : V} {uz : Value} (hu : X.A.units + 64 < cLine) (I : Inv X pins σ H s) (ro : RepO X.kw H a (.dic kvs)) (rd : RepV X.kw H d v) (ru : RelV v u) (re : RepV X.kw H e z) (rz : RelV z uz) (hf : fit kvs d = true)
    (h : ∀ w s', Inv X pins σ H s' → VO X.kw H ((dget kvs d).getD e) w → Q w s') : wpAny (model X.prog X.w) X.A (call (.builtin "dict.get") [.ref a, u, uz]) Q E s := by
  rcases fit_or hf with ⟨k, ek, al⟩ | ⟨k, ek, tk, al⟩
  · obtain ⟨A⟩ := as_K I ro al
    cases sca_rep rd ek
    exact d_get2 (o := valV A.kv k) (by omega) (A.to_ s I) (.inl ⟨A.kv, k, .inl upd_same, rfl, rfl⟩) ru rz fun w' s' I' rw' => h w' s' (A.from_ s' I') ⟨_, rw', (dget_K A.rep ek).getD re⟩
  · obtain ⟨A⟩ := as_N I ro al
    exact n_get hu (A.to_ s I) A.dic (nkey_of tk ek (mo_back (A.mo _) rd)) ru rz fun w' s' I' rw' => h w' s' (A.from_ s' I') ⟨_, rw', (dget_N A.rep ek).getD re⟩
theorem dd_get1 {Q : Value → Shared → Prop} (hu : X.A.units + 64 < cLine) (I : Inv X pins σ H s) (ro : RepO X.kw H a (.dic kvs)) (rd : RepV X.kw H d v) (ru : RelV v u) (hf : fit kvs d = true)
    (h : ∀ w s', Inv X pins σ H s' → VO X.kw H ((dget kvs d).getD .none) w → Q w s') : wpAny (model X.prog X.w) X.A (call (.builtin "dict.get") [.ref a, u]) Q E s := by
  rcases fit_or hf with ⟨k, ek, al⟩ | ⟨k, ek, tk, al⟩
  · obtain ⟨A⟩ := as_K I ro al
    cases sca_rep rd ek
    exact d_get1 (o := valV A.kv k) (by omega) (A.to_ s I) (.inl ⟨A.kv, k, .inl upd_same, rfl, rfl⟩) ru fun w' s' I' rw' => h w' s' (A.from_ s' I') ⟨_, rw', (dget_K A.rep ek).getD (a := D.none) (b := V.non) (show V.non = V.non from rfl)⟩
  · obtain ⟨A⟩ := as_N I ro al
    exact n_get1 hu (A.to_ s I) A.dic (nkey_of tk ek (mo_back (A.mo _) rd)) ru fun w' s' I' rw' => h w' s' (A.from_ s' I') ⟨_, rw', (dget_N A.rep ek).getD (a := D.none) (b := V.non) (show V.non = V.non from rfl)⟩
/-- that a dict stands there -/
theorem dic_type (I : Inv X pins σ H s) (ro : RepO X.kw H a (.dic kvs)) : s.TypeIs (.ref a) "dict" := by
  rcases ro with ⟨kv, e, _⟩ | ⟨xs, r⟩
  · obtain ⟨_, _, vs, _, dd⟩ := dk_of I.hok e
    exact dd.typeIs
  · obtain ⟨⟨o, es, ep, e, c, _⟩, _⟩ := (show ObjOk X.prog X.w H s.heap a (dobj X.w a xs) from I.hok a _ r.at_)
    exact ⟨o, e, c.1⟩
/-! deep: in a tuple -/
def rInT (K : PySem.W.Frag) (neg : Bool) : R2 := fun x y H Q => ∃ d ds, Dp K H x d ∧ Dp K H y (.tuple ds) ∧ SeqAt.shaped d = true ∧ SeqAt.shaped (.tuple ds) = true ∧ Q (.bl (if neg = true then !(ds.any fun z => PyData.eqv z d) else ds.any fun z => PyData.eqv z d)) H
theorem op_inT (hu : X.A.units + 65 < cLine) : OpR X (compareOp .In) (rInT X.K false) := by
  intro pins s σ H x y v u Q I rx ry ⟨d, ds, hd, he, sd, se, q⟩
  have q : Q (.bl (ds.any fun z => PyData.eqv z d)) H := q
  obtain ⟨_, r1⟩ := Dp.reads I d x v hd rx
  obtain ⟨_, r2⟩ := Dp.reads I (.tuple ds) y u he ry
  exact SeqAt.in_tuple_reads r2 r1 (SeqAt.canLay_of_shaped se) (SeqAt.canLay_of_shaped sd) (room_in_shaped sd hu) ⟨.bl _, H, I, rfl, q⟩
theorem op_notInT (hu : X.A.units + 65 < cLine) : OpR X (compareOp .NotIn) (rInT X.K true) := by
  intro pins s σ H x y v u Q I rx ry ⟨d, ds, hd, he, sd, se, q⟩
  have q : Q (.bl (!ds.any fun z => PyData.eqv z d)) H := q
  obtain ⟨_, r1⟩ := Dp.reads I d x v hd rx
  obtain ⟨_, r2⟩ := Dp.reads I (.tuple ds) y u he ry
  exact SeqAt.notIn_tuple_reads r2 r1 (SeqAt.canLay_of_shaped se) (SeqAt.canLay_of_shaped sd) (room_in_shaped sd hu) ⟨.bl _, H, I, rfl, q⟩
end
end DL
namespace DL
open PySem PySem.Spec PyProof.Rows L2
/-- the items of what stands in a row -/
def seqO : Option MO → Option (List D)
  | some (.lst ds) => some ds
  | _ => none
def seqOf (h : MH) : D → Option (List D)
  | .tup ds => some ds
  | .rol ds => some ds
  | .ref a => seqO (h a)
  | .none => none
  | .bool _ => none
  | .int _ => none
  | .str _ => none
  | .ty _ => none
theorem seq_rep {K : KW} {h : MH} {H : Hp} (hH : RepH K h H) : ∀ {d : D} {v : V} {ds : List D}, RepV K H d v → seqOf h d = some ds → ∃ a vs, v = .ref a ∧ RepVs K H ds vs ∧ (SqL K.F H a vs ∨ SqT K.F H a vs)
  | .tup _, _, _, r, e => by
    obtain ⟨a, vs, ev, s, q⟩ := r
    cases e
    exact ⟨a, vs, ev, q, .inr s⟩
  | .rol _, _, _, r, e => by
    obtain ⟨a, vs, ev, s, q⟩ := r
    cases e
    exact ⟨a, vs, ev, q, .inl s.sq⟩
  | .none, _, _, _, e => by cases e
  | .bool _, _, _, _, e => by cases e
  | .int _, _, _, _, e => by cases e
  | .str _, _, _, _, e => by cases e
  | .ty _, _, _, _, e => by cases e
  | .ref a, v, ds, r, e => by
    cases (show v = .ref a from r)
    have e : seqO (h a) = some ds := e
    cases q : h a with
    | none => rw [q] at e; cases e
    | some o =>
      cases o with
      | lst ds' =>
        rw [q] at e
        cases e
        obtain ⟨vs, eH, rv⟩ := hH a _ q
        exact ⟨a, vs, rfl, rv, .inl (SqL.of eH)⟩
      | dic _ => rw [q] at e; cases e
      | ins _ _ => rw [q] at e; cases e
/-! ### in -/
def eqF (x y : D) : Bool := PyData.eqv (pd x) (pd y)
def inS (a z : Str) : Bool := !(Builtin.Str.occurrences z a 0 z.length 1).isEmpty
theorem inS_one (c : Nat) (z : Str) : inS ⟨#[c]⟩ z = decide (c ∈ z.cps.toList) := PySem.StrLaws.found_one z c
def inStr (x : D) (z : Str) (k : Bool → Prop) : Prop := match x with
  | .str a => k (inS a z)
  | _ => False
def inSeq (x : D) (k : Bool → Prop) (ds : List D) : Prop := pure? 60 x = true ∧ pures? 60 ds = true ∧ k (ds.any fun z => eqF z x)
def inDic (kvs : Kvs) (x : D) (k : Bool → Prop) : Prop := fit kvs x = true ∧ k (dget kvs x).isSome
def inO (x : D) (k : Bool → Prop) : Option MO → Prop
  | some (.lst ds) => inSeq x k ds
  | some (.dic kvs) => inDic kvs x k
  | _ => False
def inAny (x y : D) (h : MH) (k : Bool → Prop) : Prop := match y with
  | .str z => inStr x z k
  | .ref a => inO x k (h a)
  | .tup ds => inSeq x k ds
  | .rol ds => inSeq x k ds
  | _ => False
def inD : R1 := fun x y h Q => inAny x y h fun b => Q (.bool b) h
def ninD : R1 := fun x y h Q => inAny x y h fun b => Q (.bool (!b)) h
theorem any_pds (x : D) : ∀ ds : List D, ((pds ds).any fun z => PyData.eqv z (pd x)) = ds.any fun z => eqF z x
  | [] => by simp [pds]
  | d :: ds => by rw [pds, List.any_cons, List.any_cons, any_pds x ds]; rfl
section
variable {K : KW} {h : MH} {H : Hp}
theorem dp_of {x : D} {v : V} (r : RepV K H x v) (p : pure? 60 x = true) : Dp K.F H v (pd x) ∧ SeqAt.shaped (pd x) = true := viewP_dp r (by unfold viewP; rw [if_pos p])
theorem dps_of {ds : List D} {vs : List V} (r : RepVs K H ds vs) (p : pures? 60 ds = true) : DpAll K.F H vs (pds ds) ∧ SeqAt.shaped (.list (pds ds)) = true ∧ SeqAt.shaped (.tuple (pds ds)) = true := by
  obtain ⟨a, b⟩ := pds_dp 60 ds vs p r
  have := pds_depth 60 ds p
  refine ⟨a, ?_, ?_⟩
  · unfold SeqAt.shaped
    rw [decide_eq_true (show PyData.depth (.list (pds ds)) ≤ 64 by simp only [PyData.depth]; omega)]
    simp only [PyData.canLay0, b]; rfl
  · unfold SeqAt.shaped
    rw [decide_eq_true (show PyData.depth (.tuple (pds ds)) ≤ 64 by simp only [PyData.depth]; omega)]
    simp only [PyData.canLay0, b]; rfl
end
section
variable {X : Cx}
theorem od_in (hu : X.A.units + 65 < cLine) : OpR X (compareOp .In) (lowR X.kw inD) := by
  intro pins s σ H x y v u QV I rv ru ⟨d, e, h, Q, rx, ry, hH, hr, hc⟩
  have hr : inAny d e h fun b => Q (.bool b) h := hr
  have lst : ∀ {a : Addr} {vs : List V} {ds : List D}, y = .ref a → SqL X.K H a vs → RepVs X.kw H ds vs → inSeq d (fun b => Q (.bool b) h) ds → wpAny (model X.prog X.w) X.A (compareOp .In v u) (EP X pins σ QV) X.xe s := by
    rintro a vs ds rfl sq rs ⟨p1, p2, q⟩
    obtain ⟨a1, b1⟩ := dp_of rx p1
    obtain ⟨a2, b2, _⟩ := dps_of rs p2
    refine op_inD hu pins s σ H x _ v u QV I rv ru ⟨pd d, pds ds, a1, .lst sq a2, b1, b2, ?_⟩
    rw [any_pds]; exact hc.bl hH q
  cases e with
  | str z =>
    cases d <;> first | (exact hr.elim) | skip
    exact op_in_str pins s σ H x y v u QV I rv ru ⟨_, _, rx.1, ry.1, hc.bl hH hr⟩
  | tup ds =>
    obtain ⟨a, vs, rfl, sq, rs⟩ := ry
    obtain ⟨p1, p2, q⟩ := (show inSeq d (fun b => Q (.bool b) h) ds from hr)
    obtain ⟨a1, b1⟩ := dp_of rx p1
    obtain ⟨a2, _, b2⟩ := dps_of rs p2
    refine op_inT hu pins s σ H x _ v u QV I rv ru ⟨pd d, pds ds, a1, .tup sq a2, b1, b2, ?_⟩
    simp only [Bool.false_eq_true, if_false, if_true]
    rw [any_pds]; exact hc.bl hH q
  | rol ds =>
    obtain ⟨a, vs, ey, sq, rs⟩ := ry
    exact lst ey sq.sq rs hr
  | ref a =>
    have ey : y = .ref a := ry
    have hr : inO d (fun b => Q (.bool b) h) (h a) := hr
    cases q : h a with
    | none => rw [q] at hr; exact hr.elim
    | some o =>
      rw [q] at hr
      cases o with
      | lst ds =>
        obtain ⟨vs, eH, rs⟩ := hH a _ q
        exact lst ey (SqL.of eH) rs hr
      | dic kvs =>
        subst ey
        cases ru
        exact dd_in (by omega) I (hH a _ q) rx rv hr.1 fun s' I' => ⟨.bl _, H, I', rfl, hc.bl hH hr.2⟩
      | ins _ _ => exact hr.elim
  | _ => exact hr.elim
theorem od_notIn (hu : X.A.units + 65 < cLine) : OpR X (compareOp .NotIn) (lowR X.kw ninD) := by
  intro pins s σ H x y v u QV I rv ru ⟨d, e, h, Q, rx, ry, hH, hr, hc⟩
  have hr : inAny d e h fun b => Q (.bool (!b)) h := hr
  have lst : ∀ {a : Addr} {vs : List V} {ds : List D}, y = .ref a → SqL X.K H a vs → RepVs X.kw H ds vs → inSeq d (fun b => Q (.bool (!b)) h) ds → wpAny (model X.prog X.w) X.A (compareOp .NotIn v u) (EP X pins σ QV) X.xe s := by
    rintro a vs ds rfl sq rs ⟨p1, p2, q⟩
    obtain ⟨a1, b1⟩ := dp_of rx p1
    obtain ⟨a2, b2, _⟩ := dps_of rs p2
    refine op_notInD hu pins s σ H x _ v u QV I rv ru ⟨pd d, pds ds, a1, .lst sq a2, b1, b2, ?_⟩
    rw [any_pds]; exact hc.bl hH q
  cases e with
  | str z =>
    cases d <;> first | (exact hr.elim) | skip
    exact op_notIn_str pins s σ H x y v u QV I rv ru ⟨_, _, rx.1, ry.1, hc.bl hH hr⟩
  | tup ds =>
    obtain ⟨a, vs, rfl, sq, rs⟩ := ry
    obtain ⟨p1, p2, q⟩ := (show inSeq d (fun b => Q (.bool (!b)) h) ds from hr)
    obtain ⟨a1, b1⟩ := dp_of rx p1
    obtain ⟨a2, _, b2⟩ := dps_of rs p2
    refine op_notInT hu pins s σ H x _ v u QV I rv ru ⟨pd d, pds ds, a1, .tup sq a2, b1, b2, ?_⟩
    simp only [Bool.false_eq_true, if_false, if_true]
    rw [any_pds]; exact hc.bl hH q
  | rol ds =>
    obtain ⟨a, vs, ey, sq, rs⟩ := ry
    exact lst ey sq.sq rs hr
  | ref a =>
    have ey : y = .ref a := ry
    have hr : inO d (fun b => Q (.bool (!b)) h) (h a) := hr
    cases q : h a with
    | none => rw [q] at hr; exact hr.elim
    | some o =>
      rw [q] at hr
      cases o with
      | lst ds =>
        obtain ⟨vs, eH, rs⟩ := hH a _ q
        exact lst ey (SqL.of eH) rs hr
      | dic kvs =>
        subst ey
        cases ru
        exact dd_notIn (by omega) I (hH a _ q) rx rv hr.1 fun s' I' => ⟨.bl _, H, I', rfl, hc.bl hH hr.2⟩
      | ins _ _ => exact hr.elim
  | _ => exact hr.elim
/-! ### is None -/
def isNone : D → Bool
  | .none => true
  | _ => false
theorem none_rep {K : KW} {H : Hp} {d : D} {v : V} (r : RepV K H d v) : decide (v = .non) = isNone d := by
  cases d with
  | none => cases (show v = _ from r); rfl
  | bool _ => cases (show v = _ from r); rfl
  | int _ => cases (show v = _ from r); rfl
  | ref _ => cases (show v = _ from r); rfl
  | ty _ => cases (show v = _ from r); rfl
  | str _ => obtain ⟨rfl, _⟩ := r; rfl
  | tup _ => obtain ⟨a, vs, rfl, _⟩ := r; rfl
  | rol _ => obtain ⟨a, vs, rfl, _⟩ := r; rfl
def isB (x : D) (b : Bool) (h : MH) (Q : KD) : Prop := match x with
  | .bool a => Q (.bool (decide (a = b))) h
  | _ => False
def isD : R1 := fun x y h Q => match y with
  | .none => Q (.bool (isNone x)) h
  | .bool b => isB x b h Q
  | _ => False
def nisD : R1 := fun x y h Q => match y with
  | .none => Q (.bool (!isNone x)) h
  | _ => False
theorem od_is : OpR X (compareOp .Is) (lowR X.kw isD) := opR_of fun x y H QV ⟨d, e, h, Q, rx, ry, hH, hr, hc⟩ => by
  cases e <;> try exact hr.elim
  · cases (show y = _ from ry)
    refine ⟨_, op_isN, rfl, ?_⟩
    rw [none_rep rx]
    exact hc.bl hH hr
  · cases (show y = _ from ry)
    cases d <;> try exact hr.elim
    cases (show x = _ from rx)
    exact ⟨_, op_isBl, _, _, rfl, rfl, hc.bl hH hr⟩
theorem od_isnot : OpR X (compareOp .IsNot) (lowR X.kw nisD) := opR_of fun x y H QV ⟨d, e, h, Q, rx, ry, hH, hr, hc⟩ => by
  cases e <;> try exact hr.elim
  cases (show y = _ from ry)
  refine ⟨_, op_notN, rfl, ?_⟩
  rw [none_rep rx]
  exact hc.bl hH hr
end
/-! ### subscripts -/
def atD (h : MH) (i : Int) (Q : KD) : Option (List D) → Prop
  | some ds => match atI ds i with
    | some d => Q d h
    | none => False
  | none => False
def atS (z : Str) (i : Int) (h : MH) (Q : KD) : Prop := match atI z.cps.toList i with
  | some c => Q (.str ⟨#[c]⟩) h
  | none => False
def dgetK (h : MH) (Q : KD) : Option D → Prop
  | some v => Q v h
  | none => False
def ixDic (kvs : Kvs) (y : D) (h : MH) (Q : KD) : Prop := fit kvs y = true ∧ dgetK h Q (dget kvs y)
def ixSeq (ds : List D) (y : D) (h : MH) (Q : KD) : Prop := match y with
  | .int i => atD h i Q (some ds)
  | _ => False
def ixStr (z : Str) (y : D) (h : MH) (Q : KD) : Prop := match y with
  | .int i => atS z i h Q
  | _ => False
def ixO (y : D) (h : MH) (Q : KD) : Option MO → Prop
  | some (.lst ds) => ixSeq ds y h Q
  | some (.dic kvs) => ixDic kvs y h Q
  | _ => False
def ixD : R1 := fun x y h Q => match x with
  | .str z => ixStr z y h Q
  | .tup ds => ixSeq ds y h Q
  | .rol ds => ixSeq ds y h Q
  | .ref a => ixO y h Q (h a)
  | _ => False
theorem atI_rep {α β : Type} {R : α → β → Prop} {xs : List α} {ys : List β} (p : Paired R xs ys) {i : Int} {x : α} (e : atI xs i = some x) : ∃ y, atI ys i = some y ∧ R x y := by
  unfold atI at e ⊢
  rw [← p.length]
  cases q : ixN xs.length i with
  | none => rw [q] at e; cases e
  | some j =>
    rw [q] at e
    exact P2.get p e
section
variable {X : Cx}
theorem ixR_of {r' : R2} (h : ∀ x y H Q, r' x y H Q → ∃ r, IxR X r ∧ r x y H Q) : IxR X r' := fun value slice pins s σ H x y v u Q I rx ry hr hs =>
  let ⟨r, ho, hq⟩ := h x y H Q hr
  ho value slice pins s σ H x y v u Q I rx ry hq hs
theorem xd_ix (hu : X.A.units + 64 < cLine) : IxR X (lowR X.kw ixD) := by
  intro value slice pins s σ H x y v u QV I rv ru ⟨d, e, h, Q, rx, ry, hH, hr, hc⟩ hs
  have sq : ∀ {a : Addr} {vs : List V} {ds : List D}, x = .ref a → (SqL X.K H a vs ∨ SqT X.K H a vs) → RepVs X.kw H ds vs → ixSeq ds e h Q → wpAny (model X.prog X.w) X.A (subscriptTail value slice v u) (EP X pins σ QV) X.xe s := by
    rintro a vs ds rfl hq rs hr
    cases e <;> first | (exact hr.elim) | skip
    rename_i i _
    cases (show y = _ from ry)
    have hr : atD h i Q (some ds) := hr
    unfold atD at hr
    simp only at hr
    cases e : atI ds i with
    | none => rw [e] at hr; exact hr.elim
    | some z =>
      rw [e] at hr
      obtain ⟨w, hw, rw'⟩ := atI_rep rs.pair e
      rcases hq with hq | hq
      · exact ix_list value slice pins s σ H _ _ v u QV I rv ru ⟨a, vs, i, w, rfl, rfl, hq, hw, hc.val hH rw' hr⟩ hs
      · exact ix_tup value slice pins s σ H _ _ v u QV I rv ru ⟨a, vs, i, w, rfl, rfl, hq, hw, hc.val hH rw' hr⟩ hs
  cases d with
  | str z =>
    obtain ⟨rfl, ok⟩ := rx
    have hr : ixStr z e h Q := hr
    cases e <;> first | (exact hr.elim) | skip
    rename_i i _
    cases (show y = _ from ry)
    have hr : atS z i h Q := hr
    unfold atS at hr
    cases e : atI z.cps.toList i with
    | none => rw [e] at hr; exact hr.elim
    | some c =>
      rw [e] at hr
      exact ix_str value slice pins s σ H _ _ v u QV I rv ru ⟨z, i, c, rfl, rfl, ok.1, e, hc.str hH (ok.one e) hr⟩ hs
  | tup ds => obtain ⟨a, vs, ex, st, rs⟩ := rx; exact sq ex (.inr st) rs hr
  | rol ds => obtain ⟨a, vs, ex, st, rs⟩ := rx; exact sq ex (.inl st.sq) rs hr
  | ref a =>
    have ex : x = .ref a := rx
    have hr : ixO e h Q (h a) := hr
    cases q : h a with
    | none => rw [q] at hr; exact hr.elim
    | some o =>
      rw [q] at hr
      cases o with
      | lst ds =>
        obtain ⟨vs, eH, rs⟩ := hH a _ q
        exact sq ex (.inl (SqL.of eH)) rs hr
      | dic kvs =>
        subst ex
        cases rv
        obtain ⟨ft, hr⟩ := (show ixDic kvs e h Q from hr)
        cases g : dget kvs e with
        | none => rw [g] at hr; exact hr.elim
        | some f =>
          rw [g] at hr
          exact tail_any (dic_type I (hH a _ q)) PySem.F.slot_dict_getitem.lookup (dd_getItem hu I (hH a _ q) ry ru ft g fun w' s' I' ⟨z, rz, rf⟩ => ⟨z, H, I', rz, hc.val hH rf hr⟩) hs
      | ins _ _ => exact hr.elim
  | _ => exact hr.elim
theorem de_ix (hu : X.A.units + 64 < cLine) {a b : Expr} {ta tb : E1} {pos : Pos} (ha : DE X a ta) (hb : DE X b tb) (hs : PlainIx b) : DE X (.Subscript a b pos) (dOp ixD ta tb) := weakE (pe_ix (xd_ix hu) ha hb hs) fun _ _ _ h => low_op h
/-! ### slices -/
abbrev O1 := Sl → MH → (Option Int → MH → Prop) → Prop
def ClO (K : KW) (h : MH) (H : Hp) (Q : Option Int → MH → Prop) (QV : Option Int → Hp → Prop) : Prop := ∀ b h' H', Stp h H h' H' → RepH K h' H' → Q b h' → QV b H'
def lowO (K : KW) (t : O1) : TO := fun σV H QV => ∃ σ h Q, RepE K H σ σV ∧ RepH K h H ∧ t σ h Q ∧ ClO K h H Q QV
abbrev DO (X : Cx) (e : Option Expr) (t : O1) : Prop := PO X e (lowO X.kw t)
def dNoPart : O1 := fun _ h Q => Q none h
def dPart (t : E1) : O1 := fun σ h Q => t σ h fun x h1 => match x with | .int i => Q (some i) h1 | _ => False
theorem weakO {e : Option Expr} {t t' : TO} (p : PO X e t) (w : ∀ σ H Q, t' σ H Q → t σ H Q) : PO X e t' := ⟨fun pins s σ H Q I h => p.run pins s σ H Q I (w σ H Q h)⟩
theorem do_none : DO X none dNoPart := weakO po_none fun σV H QV ⟨σ, h, Q, hE, hH, ht, hc⟩ => hc none h H Stp.refl hH ht
theorem do_some {e : Expr} {t : E1} (p : DE X e t) : DO X (some e) (dPart t) := weakO (po_some p) fun σV H QV ⟨σ, h, Q, hE, hH, ht, hc⟩ =>
  ⟨σ, h, _, hE, hH, ht, fun d h' v H' s' r' rv q => by
    cases d with
    | int i => exact ⟨i, rv, hc (some i) h' H' s' r' q⟩
    | _ => exact q.elim⟩
def cutD (ds : List D) (lo hi : Option Int) : List D := (ds.drop (HT.sIx ds.length 0 lo)).take (HT.sIx ds.length ds.length hi - HT.sIx ds.length 0 lo)
def slL (h : MH) (lo hi : Option Int) (Q : KD) : Option MO → Prop
  | some (.lst ds) => ∀ l, h l = none → Q (.ref l) (up h l (.lst (cutD ds lo hi)))
  | _ => False
def slD (x : D) (lo hi : Option Int) (h : MH) (Q : KD) : Prop := match x with
  | .str z => Q (.str (cutS z lo hi)) h
  | .tup ds => Q (.tup (cutD ds lo hi)) h
  | .rol ds => ∀ l, h l = none → Q (.ref l) (up h l (.lst (cutD ds lo hi)))
  | .ref a => slL h lo hi Q (h a)
  | _ => False
def dSl (t : E1) (tl tu : O1) : E1 := fun σ h Q => t σ h fun x h1 => tl σ h1 fun lo h2 => tu σ h2 fun hi h3 => slD x lo hi h3 Q
def lowSl (K : KW) (r : D → Option Int → Option Int → MH → KD → Prop) : V → Option Int → Option Int → Hp → VK → Prop := fun x lo hi H QV => ∃ d h Q, RepV K H d x ∧ RepH K h H ∧ r d lo hi h Q ∧ Cl K h H Q QV
theorem slR_of {r' : V → Option Int → Option Int → Hp → VK → Prop} (h : ∀ x lo hi H Q, r' x lo hi H Q → ∃ r, SlR X r ∧ r x lo hi H Q) : SlR X r' := fun pins s σ H x v vl vu lo hi sl Q I rx hs pl pu hr =>
  let ⟨r, ho, hq⟩ := h x lo hi H Q hr
  ho pins s σ H x v vl vu lo hi sl Q I rx hs pl pu hq
theorem cut_rep {K : KW} {H : Hp} {ds : List D} {vs : List V} (r : RepVs K H ds vs) (lo hi : Option Int) : RepVs K H (cutD ds lo hi) (cutV vs lo hi) := by
  unfold cutD cutV
  rw [r.length]
  exact .of (P2.take _ (P2.drop _ r.pair))
theorem cut_whole {α : Type} (vs : List α) (i j : Nat) (h : i = 0 ∧ j = vs.length) : (vs.drop i).take (j - i) = vs := by
  obtain ⟨rfl, rfl⟩ := h
  simp
theorem xd_sl : SlR X (lowSl X.kw slD) := slR_of fun x lo hi H QV ⟨d, h, Q, rx, hH, hr, hc⟩ => by
  cases d with
  | str z =>
    obtain ⟨rfl, ok⟩ := rx
    exact ⟨_, sl_str, z, rfl, ok.1, hc.str hH (ok.cut lo hi) hr⟩
  | tup ds =>
    obtain ⟨a, vs, rfl, s, r⟩ := rx
    have rc := cut_rep r lo hi
    refine ⟨_, sl_tupA, a, vs, rfl, s, fun z => ?_, fun _ l n => hc.tup hH n rc hr⟩
    have e : cutD ds lo hi = ds := by
      unfold cutD
      rw [r.length]
      exact cut_whole ds _ _ ⟨z.1, by rw [r.length]; exact z.2⟩
    have hr : Q (.tup (cutD ds lo hi)) h := hr
    rw [e] at hr
    exact hc.val hH (d := .tup ds) ⟨a, vs, rfl, s, r⟩ hr
  | rol ds =>
    obtain ⟨a, vs, rfl, s, r⟩ := rx
    exact ⟨_, sl_list, a, vs, rfl, s.sq, fun l n => hc.new hH n (cut_rep r lo hi) (hr l (hH.nofresh n))⟩
  | ref a =>
    cases (show x = _ from rx)
    have hr : slL h lo hi Q (h a) := hr
    cases q : h a with
    | none => rw [q] at hr; exact hr.elim
    | some o =>
      cases o with
      | lst ds =>
        rw [q] at hr
        obtain ⟨vs, e, r⟩ := hH _ _ q
        exact ⟨_, sl_list, a, vs, rfl, SqL.of e, fun l n => hc.new hH n (cut_rep r lo hi) (hr l (hH.nofresh n))⟩
      | dic _ => rw [q] at hr; exact hr.elim
      | ins _ _ => rw [q] at hr; exact hr.elim
  | _ => exact hr.elim
theorem de_slice {e : Expr} {lo hi : Option Expr} {te : E1} {tl tu : O1} {p2 pos : Pos} (he : DE X e te) (hl : DO X lo tl) (hu : DO X hi tu) : DE X (.Subscript e (.Slice lo hi none p2) pos) (dSl te tl tu) :=
  weakE (pe_slice xd_sl he hl hu) fun σV H QV ⟨σ, h, Q, hE, hH, ht, hc⟩ => by
    refine ⟨σ, h, _, hE, hH, ht, fun x h1 v1 H1 s1 hH1 r1 q1 => ?_⟩
    refine ⟨σ, h1, _, hE.mono (Stp.mo hH s1), hH1, q1, fun l h2 H2 s2 hH2 q2 => ?_⟩
    refine ⟨σ, h2, _, (hE.mono (Stp.mo hH s1)).mono (Stp.mo hH1 s2), hH2, q2, fun u h3 H3 s3 hH3 q3 => ?_⟩
    exact ⟨x, h3, Q, RepV.mono ((Stp.mo hH1 s2).trans (Stp.mo hH2 s3)) _ r1, hH3, q3, hc.step (s1.trans (s2.trans s3))⟩
/-! ### one-place operators -/
def negD (x : D) (h : MH) (Q : KD) : Prop := match x with
  | .int i => Q (.int (-i)) h
  | _ => False
def dUn (r : D → MH → KD → Prop) (t : E1) : E1 := fun σ h Q => t σ h fun x h1 => r x h1 Q
theorem de_neg {a : Expr} {ta : E1} {pos : Pos} (ha : DE X a ta) : DE X (.UnaryOp .USub a pos) (dUn negD ta) := weakE (pe_un un_neg ha) fun σV H QV ⟨σ, h, Q, hE, hH, ht, hc⟩ =>
  ⟨σ, h, _, hE, hH, ht, fun d h' v H' s' r' rv q => by
    cases d with
    | int i => exact ⟨i, rv, (hc.step s').int r' q⟩
    | _ => exact q.elim⟩
/-! ### tests -/
def asB (Q : Bool → MH → Prop) : KD := fun x h => match x with | .bool k => Q k h | _ => False
def dTest (t : E1) : T1 := fun σ h Q => t σ h (asB Q)
theorem asB_cl {K : KW} {h : MH} {H : Hp} {Q : Bool → MH → Prop} {QV : Bool → Hp → Prop} (hc : ClB K h H Q QV) : Cl K h H (asB Q) fun v H' => ∃ k, v = .bl k ∧ QV k H' := fun d h' v H' s' r' rv q => by
  cases d with
  | bool k => exact ⟨k, rv, hc k h' H' s' r' q⟩
  | _ => exact q.elim
theorem dt_cmpR {op : CmpOp} {r : R1} {a b : Expr} {ta tb : E1} {pos : Pos} (ho : OpR X (compareOp op) (lowR X.kw r)) (ha : DE X a ta) (hb : DE X b tb) (hm : behindInMarks op b = false) : DT X (.Compare a [op] [b] pos) (dTest (dOp r ta tb)) :=
  weakT (pt_cmpR ho ha hb hm) fun σV H QV ⟨σ, h, Q, hE, hH, ht, hc⟩ => low_op ⟨σ, h, asB Q, hE, hH, ht, asB_cl hc⟩
def truL (h : MH) (Q : Bool → MH → Prop) : Option (List D) → Prop
  | some ds => Q (!ds.isEmpty) h
  | none => False
def truD (x : D) (h : MH) (Q : Bool → MH → Prop) : Prop := match x with
  | .none => Q false h
  | .bool b => Q b h
  | .int i => Q (i != 0) h
  | .str z => Q (z.length != 0) h
  | x => truL h Q (seqOf h x)
def dTru (t : E1) : T1 := fun σ h Q => t σ h fun x h1 => truD x h1 Q
theorem isEmpty_rep {α β : Type} {R : α → β → Prop} {xs : List α} {ys : List β} (p : Paired R xs ys) : (!ys.isEmpty) = !xs.isEmpty := by cases p <;> rfl
theorem dt_tru {a : Expr} {ta : E1} (ha : DE X a ta) (he : ∀ whole, isTrue a X.env whole = (do let v ← whole; standAt a.pos; holding [v] (truthy v)) := by intro _; rfl) : DT X a (dTru ta) :=
  weakT (pt_truth ha he) fun σV H QV ⟨σ, h, Q, hE, hH, ht, hc⟩ => ⟨σ, h, _, hE, hH, ht, fun d h' v H' s' hH' rv q => by
    have fin : ∀ k, Q k h' → QV k H' := fun k z => hc k h' H' s' hH' z
    have sq : truL h' Q (seqOf h' d) → ∃ k, TruV X.K v H' k ∧ QV k H' := fun q => by
      cases e : seqOf h' d with
      | none => rw [e] at q; exact q.elim
      | some ds =>
        rw [e] at q
        obtain ⟨a, vs, rfl, r, hs⟩ := seq_rep hH' rv e
        refine ⟨_, ?_, fin _ q⟩
        rcases hs with hs | hs
        · exact .inl ⟨vs, hs, (isEmpty_rep r.pair).symm⟩
        · exact .inr (.inl ⟨vs, hs, (isEmpty_rep r.pair).symm⟩)
    cases d with
    | none => cases (show v = _ from rv); exact ⟨_, rfl, fin _ q⟩
    | bool b => cases (show v = _ from rv); exact ⟨_, rfl, fin _ q⟩
    | int b => cases (show v = _ from rv); exact ⟨_, rfl, fin _ q⟩
    | str z =>
      obtain ⟨rfl, ok⟩ := rv
      refine ⟨_, ⟨ok.1, rfl⟩, ?_⟩
      have e : (((z.length : Nat) : Int) != 0) = (z.length != 0) := by
        by_cases y : z.length = 0
        · rw [y]; rfl
        · rw [bne_iff_ne.mpr y, bne_iff_ne.mpr (by omega)]
      rw [e]
      exact fin _ q
    | _ => exact sq q⟩
def dAndT (t u : T1) : T1 := fun σ h Q => t σ h fun c h1 => if c = true then u σ h1 Q else Q false h1
def dOrT (t u : T1) : T1 := fun σ h Q => t σ h fun c h1 => if c = true then Q true h1 else u σ h1 Q
def dNotT (t : T1) : T1 := fun σ h Q => t σ h fun c h1 => Q (!c) h1
abbrev DW (X : Cx) (e : Expr) (t : T1) : Prop := PW X e (lowT X.kw t)
theorem weakW {e : Expr} {t t' : TT} (p : PW X e t) (w : ∀ σ H Q, t' σ H Q → t σ H Q) : PW X e t' := ⟨fun wh pins s σ H Q I h => p.run wh pins s σ H Q I (w σ H Q h)⟩
theorem dw_and1 {a : Expr} {ta : T1} {pos : Pos} (ha : DT X a ta) : DW X (.BoolOp .And [a] pos) ta := pw_and1 ha
theorem dw_or1 {a : Expr} {ta : T1} {pos : Pos} (ha : DT X a ta) : DW X (.BoolOp .Or [a] pos) ta := pw_or1 ha
theorem dw_and {a b : Expr} {rest : List Expr} {ta tb : T1} {pos : Pos} (ha : DT X a ta) (hb : DW X (.BoolOp .And (b :: rest) pos) tb) : DW X (.BoolOp .And (a :: b :: rest) pos) (dAndT ta tb) :=
  weakW (pw_and ha hb) fun σV H QV ⟨σ, h, Q, hE, hH, ht, hc⟩ => ⟨σ, h, _, hE, hH, ht, fun c h1 H1 s1 hH1 q => by
    cases c with
    | true => rw [if_pos rfl] at q ⊢; exact ⟨σ, h1, Q, hE.mono (Stp.mo hH s1), hH1, q, hc.step s1⟩
    | false => rw [if_neg Bool.false_ne_true] at q ⊢; exact hc _ _ _ s1 hH1 q⟩
theorem dw_or {a b : Expr} {rest : List Expr} {ta tb : T1} {pos : Pos} (ha : DT X a ta) (hb : DW X (.BoolOp .Or (b :: rest) pos) tb) : DW X (.BoolOp .Or (a :: b :: rest) pos) (dOrT ta tb) :=
  weakW (pw_or ha hb) fun σV H QV ⟨σ, h, Q, hE, hH, ht, hc⟩ => ⟨σ, h, _, hE, hH, ht, fun c h1 H1 s1 hH1 q => by
    cases c with
    | false => rw [if_neg Bool.false_ne_true] at q ⊢; exact ⟨σ, h1, Q, hE.mono (Stp.mo hH s1), hH1, q, hc.step s1⟩
    | true => rw [if_pos rfl] at q ⊢; exact hc _ _ _ s1 hH1 q⟩
theorem dt_w {e : Expr} {t : T1} (p : DW X e t) : DT X e t := PW.pt p
theorem dt_not {a : Expr} {ta : T1} {pos : Pos} (ha : DT X a ta) : DT X (.UnaryOp .Not a pos) (dNotT ta) :=
  weakT (pt_not ha) fun σV H QV ⟨σ, h, Q, hE, hH, ht, hc⟩ => ⟨σ, h, _, hE, hH, ht, fun c h1 H1 s1 hH1 q => hc _ _ _ s1 hH1 q⟩
/-! .. as values -/
def dAndV (t u : E1) : E1 := fun σ h Q => t σ h (asB fun c h1 => if c = true then u σ h1 Q else Q (.bool false) h1)
def dOrV (t u : E1) : E1 := fun σ h Q => t σ h (asB fun c h1 => if c = true then Q (.bool true) h1 else u σ h1 Q)
def dNotV (t : E1) : E1 := fun σ h Q => t σ h (asB fun c h1 => Q (.bool (!c)) h1)
theorem de_one {op} {a : Expr} {t : E1} {pos : Pos} (h : DE X a t) : DE X (.BoolOp op [a] pos) t := pe_one h
theorem de_and {a b : Expr} {rest : List Expr} {ta tb : E1} {pos : Pos} (ha : DE X a ta) (hb : DE X (.BoolOp .And (b :: rest) pos) tb) : DE X (.BoolOp .And (a :: b :: rest) pos) (dAndV ta tb) :=
  weakE (pe_and ha hb) fun σV H QV ⟨σ, h, Q, hE, hH, ht, hc⟩ => ⟨σ, h, _, hE, hH, ht, fun d h1 v H1 s1 hH1 rv q => by
    cases d with
    | bool c =>
      refine ⟨c, rv, ?_⟩
      have q : if c = true then tb σ h1 Q else Q (.bool false) h1 := q
      cases c with
      | true => rw [if_pos rfl] at q ⊢; exact ⟨σ, h1, Q, hE.mono (Stp.mo hH s1), hH1, q, hc.step s1⟩
      | false => rw [if_neg Bool.false_ne_true] at q ⊢; exact (hc.step s1).bl hH1 q
    | _ => exact q.elim⟩
theorem de_or {a b : Expr} {rest : List Expr} {ta tb : E1} {pos : Pos} (ha : DE X a ta) (hb : DE X (.BoolOp .Or (b :: rest) pos) tb) : DE X (.BoolOp .Or (a :: b :: rest) pos) (dOrV ta tb) :=
  weakE (pe_or ha hb) fun σV H QV ⟨σ, h, Q, hE, hH, ht, hc⟩ => ⟨σ, h, _, hE, hH, ht, fun d h1 v H1 s1 hH1 rv q => by
    cases d with
    | bool c =>
      refine ⟨c, rv, ?_⟩
      have q : if c = true then Q (.bool true) h1 else tb σ h1 Q := q
      cases c with
      | false => rw [if_neg Bool.false_ne_true] at q ⊢; exact ⟨σ, h1, Q, hE.mono (Stp.mo hH s1), hH1, q, hc.step s1⟩
      | true => rw [if_pos rfl] at q ⊢; exact (hc.step s1).bl hH1 q
    | _ => exact q.elim⟩
theorem de_not {a : Expr} {ta : E1} {pos : Pos} (ha : DE X a ta) : DE X (.UnaryOp .Not a pos) (dNotV ta) :=
  weakE (pe_not ha) fun σV H QV ⟨σ, h, Q, hE, hH, ht, hc⟩ => ⟨σ, h, _, hE, hH, ht, fun d h1 v H1 s1 hH1 rv q => by
    cases d with
    | bool c => exact ⟨c, rv, (hc.step s1).bl hH1 q⟩
    | _ => exact q.elim⟩
def dIf (t : T1) (ta tb : E1) : E1 := fun σ h Q => t σ h fun c h1 => if c = true then ta σ h1 Q else tb σ h1 Q
theorem de_ifExp {c a b : Expr} {tc : T1} {ta tb : E1} {pos : Pos} (hc : DT X c tc) (ha : DE X a ta) (hb : DE X b tb) : DE X (.IfExp c a b pos) (dIf tc ta tb) :=
  weakE (pe_ifExp hc ha hb) fun σV H QV ⟨σ, h, Q, hE, hH, ht, hc⟩ => ⟨σ, h, _, hE, hH, ht, fun c h1 H1 s1 hH1 q => by
    cases c with
    | true => rw [if_pos rfl] at q ⊢; exact ⟨σ, h1, Q, hE.mono (Stp.mo hH s1), hH1, q, hc.step s1⟩
    | false => rw [if_neg Bool.false_ne_true] at q ⊢; exact ⟨σ, h1, Q, hE.mono (Stp.mo hH s1), hH1, q, hc.step s1⟩⟩
/-! a < b < c -/
def dChain (r r' : R1) (ta tb tc : E1) : E1 := fun σ h Q => ta σ h fun x h1 => tb σ h1 fun y h2 => r x y h2 (asB fun k h3 => if k = true then tc σ h3 fun z h4 => r' y z h4 Q else Q (.bool false) h3)
end
end DL
namespace DL
open PySem PySem.Spec PyProof.Rows L2
/-! ### statements -/
structure Nd where
  nx : Sl → MH → Prop
  rt : KD
  bk : Sl → MH → Prop := fun _ _ => False
  ct : Sl → MH → Prop := fun _ _ => False
abbrev S1 := Nd → Sl → MH → Prop
def ClN (K : KW) (h : MH) (H : Hp) (n : Sl → MH → Prop) (nV : L2.St → Hp → Prop) : Prop := ∀ σ' h' σV' H', Stp h H h' H' → RepE K H' σ' σV' → RepH K h' H' → n σ' h' → nV σV' H'
structure ClS (K : KW) (h : MH) (H : Hp) (D : Nd) (DV : Ends) : Prop where
  nx : ClN K h H D.nx DV.nx
  rt : Cl K h H D.rt DV.rt
  bk : ClN K h H D.bk DV.bk
  ct : ClN K h H D.ct DV.ct
theorem ClN.step {K : KW} {h h1 : MH} {H H1 : Hp} {n : Sl → MH → Prop} {nV : L2.St → Hp → Prop} (s : Stp h H h1 H1) (c : ClN K h H n nV) : ClN K h1 H1 n nV := fun a b d e s' x y z => c a b d e (s.trans s') x y z
theorem ClS.step {K : KW} {h h1 : MH} {H H1 : Hp} {D : Nd} {DV : Ends} (s : Stp h H h1 H1) (c : ClS K h H D DV) : ClS K h1 H1 D DV := ⟨c.nx.step s, c.rt.step s, c.bk.step s, c.ct.step s⟩
def lowS (K : KW) (t : S1) : TS := fun DV σV H => ∃ D σ h, RepE K H σ σV ∧ RepH K h H ∧ t D σ h ∧ ClS K h H D DV
theorem weakS {X : Cx} {e : Stmt} {t t' : TS} (p : PS X e t) (w : ∀ D σ H, t' D σ H → t D σ H) : PS X e t' := ⟨fun pins s σ H D I h => p.run pins s σ H D I (w D σ H h)⟩
theorem weakSs {X : Cx} {e : List Stmt} {t t' : TS} (p : PSs X e t) (w : ∀ D σ H, t' D σ H → t D σ H) : PSs X e t' := ⟨fun pins s σ H D I h => p.run pins s σ H D I (w D σ H h)⟩
abbrev DS (X : Cx) (st : Stmt) (t : S1) : Prop := PS X st (lowS X.kw t)
abbrev DSs (X : Cx) (st : List Stmt) (t : S1) : Prop := PSs X st (lowS X.kw t)
section
variable {X : Cx}
def dNext : S1 := fun D σ h => D.nx σ h
def dSeq (t u : S1) : S1 := fun D σ h => t { D with nx := u D } σ h
theorem dss_nil : DSs X [] dNext := weakSs pss_nil fun DV σV H ⟨D, σ, h, hE, hH, ht, hc⟩ => hc.nx σ h σV H Stp.refl hE hH ht
theorem dss_one {st : Stmt} {t : S1} (a : DS X st t) : DSs X [st] t := pss_one a
theorem dss_cons {st : Stmt} {rest : List Stmt} {t u : S1} (a : DS X st t) (b : DSs X rest u) : DSs X (st :: rest) (dSeq t u) := weakSs (pss_cons a b) fun DV σV H ⟨D, σ, h, hE, hH, ht, hc⟩ =>
  ⟨{ D with nx := u D }, σ, h, hE, hH, ht, ⟨fun σ' h' σV' H' s' e' r' q => ⟨D, σ', h', e', r', q, hc.step s'⟩, hc.rt, hc.bk, hc.ct⟩⟩
def dBrk : S1 := fun D σ h => D.bk σ h
def dCnt : S1 := fun D σ h => D.ct σ h
theorem ds_pass {pos : Pos} : DS X (.Pass pos) dNext := weakS ps_pass fun DV σV H ⟨D, σ, h, hE, hH, ht, hc⟩ => hc.nx σ h σV H Stp.refl hE hH ht
theorem ds_break {pos : Pos} : DS X (.Break pos) dBrk := weakS ps_break fun DV σV H ⟨D, σ, h, hE, hH, ht, hc⟩ => hc.bk σ h σV H Stp.refl hE hH ht
theorem ds_continue {pos : Pos} : DS X (.Continue pos) dCnt := weakS ps_continue fun DV σV H ⟨D, σ, h, hE, hH, ht, hc⟩ => hc.ct σ h σV H Stp.refl hE hH ht
theorem ds_doc {x j pos pos'} : DS X (.Expr (.Constant (.str x) j pos) pos') dNext := weakS ps_doc fun DV σV H ⟨D, σ, h, hE, hH, ht, hc⟩ => hc.nx σ h σV H Stp.refl hE hH ht
def dDrop (t : E1) : S1 := fun D σ h => t σ h fun _ h1 => D.nx σ h1
theorem ds_expr {e : Expr} {t : E1} {pos : Pos} (p : DE X e t) (hs : swapsWith e none pos.line X.env = pure false := by rfl) : DS X (.Expr e pos) (dDrop t) := weakS (ps_expr p hs) fun DV σV H ⟨D, σ, h, hE, hH, ht, hc⟩ =>
  ⟨σ, h, _, hE, hH, ht, fun d h' v H' s' r' rv q => hc.nx σ h' σV H' s' (hE.mono (Stp.mo hH s')) r' q⟩
def dRet (t : E1) : S1 := fun D σ h => t σ h D.rt
theorem ds_ret {e : Expr} {t : E1} {pos : Pos} (p : DE X e t) : DS X (.Return (some e) pos) (dRet t) := weakS (ps_ret p) fun DV σV H ⟨D, σ, h, hE, hH, ht, hc⟩ => ⟨σ, h, _, hE, hH, ht, hc.rt⟩
def dRetN : S1 := fun D _ h => D.rt .none h
theorem ds_retN {pos : Pos} : DS X (.Return none pos) dRetN := weakS ps_retN fun DV σV H ⟨D, σ, h, hE, hH, ht, hc⟩ => hc.rt.non hH ht
def dIfS (c : T1) (t u : S1) : S1 := fun D σ h => c σ h fun b h1 => if b = true then t D σ h1 else u D σ h1
theorem ds_if {c : Expr} {a b : List Stmt} {tc : T1} {t u : S1} {pos : Pos} (hc : DT X c tc) (ha : DSs X a t) (hb : DSs X b u) : DS X (.If c a b pos) (dIfS tc t u) := weakS (ps_if hc ha hb) fun DV σV H ⟨D, σ, h, hE, hH, ht, hc⟩ =>
  ⟨σ, h, _, hE, hH, ht, fun b h' H' s' r' q => by
    cases b with
    | true => rw [if_pos rfl] at q ⊢; exact ⟨D, σ, h', hE.mono (Stp.mo hH s'), r', q, hc.step s'⟩
    | false => rw [if_neg Bool.false_ne_true] at q ⊢; exact ⟨D, σ, h', hE.mono (Stp.mo hH s'), r', q, hc.step s'⟩⟩
/-! ### targets; P: what the stores leave alone -/
structure Pr where
  rel : L2.St → L2.St → Prop
  re : ∀ a, rel a a
  tr : ∀ a b c, rel a b → rel b c → rel a c
def P0 : Pr := ⟨fun _ _ => True, fun _ => trivial, fun _ _ _ _ _ => trivial⟩
def Pw (vs : List Nat) : Pr := ⟨fun a b => wipe b vs = wipe a vs, fun _ => rfl, fun a b c h k => k.trans h⟩
abbrev G1 := D → Sl → MH → (Sl → MH → Prop) → Prop
abbrev Gs1 := List D → Sl → MH → (Sl → MH → Prop) → Prop
def ClG (K : KW) (P : Pr) (σV : L2.St) (h : MH) (H : Hp) (n : Sl → MH → Prop) (nV : L2.St → Hp → Prop) : Prop := ∀ σ' h' σV' H', P.rel σV σV' → Stp h H h' H' → RepE K H' σ' σV' → RepH K h' H' → n σ' h' → nV σV' H'
def lowG (K : KW) (P : Pr) (g : G1) : TG := fun v σV H QV => ∃ d σ h Q, RepV K H d v ∧ RepE K H σ σV ∧ RepH K h H ∧ g d σ h Q ∧ ClG K P σV h H Q QV
def lowGs (K : KW) (P : Pr) (g : Gs1) : TGs := fun vs σV H QV => ∃ ds σ h Q, RepVs K H ds vs ∧ RepE K H σ σV ∧ RepH K h H ∧ g ds σ h Q ∧ ClG K P σV h H Q QV
abbrev DG (X : Cx) (P : Pr) (e : Expr) (g : G1) : Prop := PG X e (lowG X.kw P g)
abbrev DGs (X : Cx) (P : Pr) (es : List Expr) (g : Gs1) : Prop := PGs X es (lowGs X.kw P g)
theorem weakG {e : Expr} {t t' : TG} (p : PG X e t) (w : ∀ v σ H Q, t' v σ H Q → t v σ H Q) : PG X e t' := ⟨fun pins s σ H v u Q I r h => p.run pins s σ H v u Q I r (w v σ H Q h)⟩
theorem weakGs {e : List Expr} {t t' : TGs} (p : PGs X e t) (w : ∀ v σ H Q, t' v σ H Q → t v σ H Q) : PGs X e t' := ⟨fun pins s σ H v u Q I r h => p.run pins s σ H v u Q I r (w v σ H Q h)⟩
def gN (i : Nat) : G1 := fun d σ h Q => Q (put σ i (some d)) h
def OkAt (P : Pr) (i : Nat) : Prop := ∀ σ v, P.rel σ (σ.set i (some v))
theorem okAt0 {i : Nat} : OkAt P0 i := fun _ _ => trivial
theorem wipe_put {i : Nat} {x : Option V} : ∀ (vs : List Nat) (σ : L2.St), i ∈ vs → wipe (σ.set i x) vs = wipe σ vs
  | [], _, h => by cases h
  | v :: vs, σ, h => by
    have out : ∀ (vs : List Nat) (τ : L2.St), i ∉ vs → wipe (τ.set i x) vs = (wipe τ vs).set i x := by
      intro vs
      induction vs with
      | nil => intro τ _; rfl
      | cons u us ih =>
        intro τ hn
        rw [List.mem_cons, not_or] at hn
        show (wipe (τ.set i x) us).set u none = ((wipe τ us).set u none).set i x
        rw [ih τ hn.2, List.set_comm _ _ hn.1]
    show (wipe (σ.set i x) vs).set v none = (wipe σ vs).set v none
    by_cases m : i ∈ vs
    · rw [wipe_put vs σ m]
    · have e : i = v := by
        rcases List.mem_cons.mp h with e | e
        · exact e
        · exact absurd e m
      subst e
      rw [out vs σ m, List.set_set]
theorem okAtW {vs : List Nat} {i : Nat} (h : i ∈ vs) : OkAt (Pw vs) i := fun σ v => wipe_put vs σ h
theorem dg_name (i : Nat) {P : Pr} (ok : OkAt P i) {x : Str} {pos : Pos} (hN : X.N.Nodup) (hi : X.N[i]? = some x) (hx : Loc X.env.scope x) (hf : X.fn x = true ∨ X.env.scope.names.lookup x = some .local := by first | exact .inl rfl | exact .inr rfl | assumption) : DG X P (.Name x pos) (gN i) :=
  weakG (pg_name hN hi hx hf) fun v σV H QV ⟨d, σ, h, Q, rv, hE, hH, hg, hc⟩ => hc _ h _ H (ok σV v) Stp.refl (hE.put rv) hH hg
def gNl : Gs1 := fun ds σ h Q => match ds with
  | [] => Q σ h
  | _ :: _ => False
def gCn (g : G1) (gs : Gs1) : Gs1 := fun ds σ h Q => match ds with
  | [] => False
  | d :: r => g d σ h fun σ' h' => gs r σ' h' Q
theorem dgs_nil {P : Pr} : DGs X P [] gNl := weakGs pgs_nil fun v σV H QV ⟨ds, σ, h, Q, rv, hE, hH, hg, hc⟩ => by
  cases ds with
  | nil => exact ⟨rv, hc σ h σV H (P.re _) Stp.refl hE hH hg⟩
  | cons d r => exact hg.elim
theorem dgs_cons {P : Pr} {e : Expr} {es : List Expr} {g : G1} {gs : Gs1} (a : DG X P e g) (b : DGs X P es gs) (hs : (assignEach (e :: es) X.env).map (·.2) = assign e X.env :: (assignEach es X.env).map (·.2) := by rfl) : DGs X P (e :: es) (gCn g gs) :=
  weakGs (pgs_cons a b hs) fun v σV H QV ⟨ds, σ, h, Q, rv, hE, hH, hg, hc⟩ => by
    cases ds with
    | nil => exact hg.elim
    | cons d r =>
      obtain ⟨w, us, rfl, r1, r2⟩ := rv
      refine ⟨w, us, rfl, d, σ, h, _, r1, hE, hH, hg, fun σ' h' σV' H' p' s' e' r' q => ?_⟩
      exact ⟨r, σ', h', Q, RepVs.mono (Stp.mo hH s') _ r2, e', r', q, fun σ2 h2 σV2 H2 p2 s2 e2 z2 q2 => hc σ2 h2 σV2 H2 (P.tr _ _ _ p' p2) (s'.trans s2) e2 z2 q2⟩
def gTp (n : Nat) (gs : Gs1) : G1 := fun d σ h Q => match d with
  | .tup ds => ds.length = n ∧ gs ds σ h Q
  | _ => False
theorem dg_tup {P : Pr} {es : List Expr} {k : Nat} {gs : Gs1} {n : Nat} {pos : Pos} (hc : X.calm = true) (a : DGs X P es gs) (hn : (assignEach es X.env).length = n := by rfl) (hst : (assignEach es X.env).findIdx? (·.1) = none := by rfl) : DG X P (.Tuple es k pos) (gTp n gs) :=
  weakG (pg_tup hc a hn hst) fun v σV H QV ⟨d, σ, h, Q, rv, hE, hH, hg, hc⟩ => by
    cases d with
    | tup ds =>
      obtain ⟨a, vs, rfl, s, r⟩ := rv
      exact ⟨a, vs, rfl, s, by rw [← r.length]; exact hg.1, ds, σ, h, Q, r, hE, hH, hg.2, hc⟩
    | _ => exact hg.elim
/-! .. a place of a list -/
abbrev Set1 := D → D → D → MH → (MH → Prop) → Prop
def ClM (K : KW) (h : MH) (H : Hp) (n : MH → Prop) (nV : Hp → Prop) : Prop := ∀ h' H', Stp h H h' H' → RepH K h' H' → n h' → nV H'
def lowSet (K : KW) (r : Set1) : TSet := fun o i v H QV => ∃ a b d h Q, RepV K H a o ∧ RepV K H b i ∧ RepV K H d v ∧ RepH K h H ∧ r a b d h Q ∧ ClM K h H Q QV
def setL (p : Addr) (i d : D) (h : MH) (Q : MH → Prop) (xs : List D) : Prop := match i with
  | .int k => match ixN xs.length k with
    | some j => Q (up h p (.lst (xs.set j d)))
    | none => False
  | _ => False
def setDic (p : Addr) (i d : D) (h : MH) (Q : MH → Prop) (kvs : Kvs) : Prop := fit kvs i = true ∧ kvs.length < sizeLine ∧ Q (up h p (.dic (dset kvs i d)))
def setO (p : Addr) (i d : D) (h : MH) (Q : MH → Prop) : Option MO → Prop
  | some (.lst xs) => setL p i d h Q xs
  | some (.dic kvs) => setDic p i d h Q kvs
  | _ => False
def setD : Set1 := fun o i d h Q => match o with
  | .ref p => setO p i d h Q (h p)
  | _ => False
theorem xd_set (hu : X.A.units + 64 < cLine) : PSet X (lowSet X.kw setD) := by
  intro pins s σ H o i v ov iv u QV I r1 r2 r3 ⟨a, b, d, h, Q, ro, ri, rv, hH, hr, hc⟩
  cases a <;> first | (exact hr.elim) | skip
  rename_i p
  have hr : setO p b d h Q (h p) := hr
  have eo : o = .ref p := ro
  subst eo
  cases q : h p with
  | none => rw [q] at hr; exact hr.elim
  | some w =>
    rw [q] at hr
    cases w with
    | lst xs =>
      have hr : setL p b d h Q xs := hr
      cases b <;> first | (exact hr.elim) | skip
      rename_i k _ _
      cases (show i = _ from ri)
      unfold setL at hr
      simp only at hr
      obtain ⟨vs, e, r⟩ := hH _ _ q
      cases e2 : ixN xs.length k with
      | none => rw [e2] at hr; exact hr.elim
      | some j =>
        rw [e2] at hr
        exact set_list pins s σ H _ _ v ov iv u QV I r1 r2 r3 ⟨p, vs, k, j, rfl, rfl, e, by rw [← r.length]; exact e2, hc _ _ (Stp.write q) (hH.write q (.of (P2.set rv j r.pair))) hr⟩
    | dic kvs =>
      cases r1
      obtain ⟨ft, hl, hq⟩ := (show setDic p b d h Q kvs from hr)
      exact dd_setItem hu I (hH _ _ q) ri r2 rv r3 ft hl fun s' o' I' ro' => ⟨_, I', hc _ _ (Stp.write q) (hH.writeO q ro') hq⟩
    | ins _ _ => exact hr.elim
def gSb (to ti : E1) (t : Set1) : G1 := fun d σ h Q => to σ h fun o h1 => ti σ h1 fun i h2 => t o i d h2 fun h3 => Q σ h3
theorem dg_sub (hu : X.A.units + 64 < cLine) {P : Pr} {o i : Expr} {to ti : E1} {pos : Pos} (ho : DE X o to) (hi : DE X i ti)
    (ha : ∀ v, assign (.Subscript o i pos) X.env v = (do
      let ov ← holding [v] (eval o X.env)
      let iv ← holding [v, ov] (eval i X.env)
      standAt pos
      holding [v, ov, iv] (setItem ov iv v)
      release [v, ov, iv] []) := by intro _; rfl) : DG X P (.Subscript o i pos) (gSb to ti setD) :=
  weakG (pg_sub ho hi (xd_set hu) ha) fun v σV H QV ⟨d, σ, h, Q, rv, hE, hH, hg, hc⟩ => by
    refine ⟨σ, h, _, hE, hH, hg, fun a h1 x H1 s1 hH1 r1 q1 => ?_⟩
    refine ⟨σ, h1, _, hE.mono (Stp.mo hH s1), hH1, q1, fun b h2 y H2 s2 hH2 r2 q2 => ?_⟩
    have m1 := Stp.mo hH s1
    have m2 := Stp.mo hH1 s2
    refine ⟨a, b, d, h2, _, RepV.mono m2 _ r1, r2, RepV.mono (m1.trans m2) _ rv, hH2, q2, fun h3 H3 s3 hH3 q3 => ?_⟩
    exact hc σ h3 σV H3 (P.re _) (s1.trans (s2.trans s3)) (hE.mono ((m1.trans m2).trans (Stp.mo hH2 s3))) hH3 q3
/-! ### assignments -/
def dAsg (t : E1) (g : G1) : S1 := fun D σ h => t σ h fun x h1 => g x σ h1 D.nx
theorem ds_asg {tg e : Expr} {t : E1} {g : G1} {pos : Pos} (he : DE X e t) (hg : DG X P0 tg g) (hs : swapsWithSole [tg] e pos.line X.env = pure false := by rfl) (hw : swappedStores [tg] e X.env = pure none := by rfl)
    (h1 : (assignEach [tg] X.env).map (·.2) = [assign tg X.env] := by rfl) : DS X (.Assign [tg] e pos) (dAsg t g) := weakS (ps_asg he hg hs hw h1) fun DV σV H ⟨D, σ, h, hE, hH, ht, hc⟩ =>
  ⟨σ, h, _, hE, hH, ht, fun d h' v H' s' r' rv q => ⟨d, σ, h', _, rv, hE.mono (Stp.mo hH s'), r', q, fun σ2 h2 σV2 H2 _ s2 e2 z2 q2 => hc.nx σ2 h2 σV2 H2 (s'.trans s2) e2 z2 q2⟩⟩
theorem ds_set (i : Nat) {x : Str} {e : Expr} {t : E1} {pos pos' : Pos} (hN : X.N.Nodup) (hi : X.N[i]? = some x) (hx : Loc X.env.scope x) (he : DE X e t) (hs : swapsWith e (some (.Name x pos')) pos.line X.env = pure false := by rfl) (hf : X.fn x = true ∨ X.env.scope.names.lookup x = some .local := by first | exact .inl rfl | exact .inr rfl | assumption) :
    DS X (.Assign [.Name x pos'] e pos) (dAsg t (gN i)) := weakS (ps_set hN hi hx he hs hf) fun DV σV H ⟨D, σ, h, hE, hH, ht, hc⟩ =>
  ⟨σ, h, _, hE, hH, ht, fun d h' v H' s' r' rv q => hc.nx _ h' _ H' s' ((hE.mono (Stp.mo hH s')).put rv) r' q⟩
def dPar (i j : Nat) (ta : A1) : S1 := fun D σ h => ta σ h fun ds h1 => match ds with
  | [d, e] => D.nx (put (put σ i (some d)) j (some e)) h1
  | _ => False
theorem ds_par {i j : Nat} {x y : Str} {a b : Expr} {ta : A1} {px py pt pos : Pos} {kt k2 pt2} (hc : X.calm = true) (hN : X.N.Nodup) (hi : X.N[i]? = some x) (hj : X.N[j]? = some y) (hij : i ≠ j)
    (hx : X.env.scope.names.lookup x = some .local) (hy : X.env.scope.names.lookup y = some .local) (ha : DA X [a, b] ta)
    (hw : swappedStores [.Tuple [.Name x px, .Name y py] kt pt] (.Tuple [a, b] k2 pt2) X.env = pure (some [x, y]))
    (hs : swapsWithSole [.Tuple [.Name x px, .Name y py] kt pt] (.Tuple [a, b] k2 pt2) pos.line X.env = pure false := by rfl) :
    DS X (.Assign [.Tuple [.Name x px, .Name y py] kt pt] (.Tuple [a, b] k2 pt2) pos) (dPar i j ta) := weakS (ps_par hc hN hi hj hij hx hy ha hw hs) fun DV σV H ⟨D, σ, h, hE, hH, ht, hc⟩ =>
  ⟨σ, h, _, hE, hH, ht, fun ds h' vs H' s' r' rv q => by
    match ds, rv, q with
    | [], _, q => exact q.elim
    | [_], _, q => exact q.elim
    | _ :: _ :: _ :: _, _, q => exact q.elim
    | [d, e], rv, q =>
      obtain ⟨v, r, rfl, r1, v2, r2, rfl, r3, r4⟩ := rv
      cases (show r2 = [] from r4)
      exact ⟨v, v2, rfl, hc.nx _ h' _ H' s' (((hE.mono (Stp.mo hH s')).put r1).put r3) r' q⟩⟩
/-! x op= e -/
def lowIp (K : KW) (r : R1) : TIp := lowR K r
def dAug (i : Nat) (t : E1) (r : R1) : S1 := fun D σ h => match nth σ i with
  | some x => t σ h fun y h1 => r x y h1 fun z h2 => D.nx (put σ i (some z)) h2
  | none => False
def iaddD : R1 := fun x y h Q => match x, y with
  | .int i, .int j => Q (.int (i + j)) h
  | .str a, .str b => a.length + b.length ≤ sizeLine ∧ Q (.str (a ++ b)) h
  | _, _ => False
theorem xd_iadd : PIp X .Add (lowIp X.kw iaddD) := by
  intro pins s σ H x y v u Q I r1 r2 ⟨d, e, h, QD, rx, ry, hH, hr, hc⟩
  cases d <;> cases e <;> try exact hr.elim
  case int.int i j => exact ip_add pins s σ H x y v u Q I r1 r2 ⟨i, j, rx, ry, hc.int hH hr⟩
  case str.str a b =>
    obtain ⟨rfl, o1⟩ := rx
    obtain ⟨rfl, o2⟩ := ry
    exact iop_add_str pins s σ H _ _ v u Q I r1 r2 ⟨a, b, rfl, rfl, hr.1, hc.str hH (o1.app o2 hr.1) hr.2⟩
theorem xd_isub : PIp X .Sub (lowIp X.kw subD) := by
  intro pins s σ H x y v u Q I r1 r2 ⟨d, e, h, QD, rx, ry, hH, hr, hc⟩
  cases d <;> cases e <;> try exact hr.elim
  case int.int i j => exact ip_sub pins s σ H x y v u Q I r1 r2 ⟨i, j, rx, ry, hc.int hH hr⟩
theorem ds_aug (i : Nat) {x : Str} {e : Expr} {t : E1} {op : Operator} {r : R1} {pos pos' : Pos} (hN : X.N.Nodup) (hi : X.N[i]? = some x) (hx : Loc X.env.scope x) (he : DE X e t) (ho : PIp X op (lowIp X.kw r)) (hf : X.fn x = true ∨ X.env.scope.names.lookup x = some .local := by first | exact .inl rfl | exact .inr rfl | assumption) :
    DS X (.AugAssign (.Name x pos') op e pos) (dAug i t r) := weakS (ps_aug hN hi hx he ho hf) fun DV σV H ⟨D, σ, h, hE, hH, ht, hc⟩ => by
  unfold dAug at ht
  cases q : nth σ i with
  | none => rw [q] at ht; exact ht.elim
  | some d =>
    rw [q] at ht
    obtain ⟨v, e1, rv⟩ := hE.val i d q
    refine ⟨v, e1, σ, h, _, hE, hH, ht, fun e h1 u H1 s1 hH1 ru q1 => ?_⟩
    have m1 := Stp.mo hH s1
    refine ⟨d, e, h1, _, RepV.mono m1 _ rv, ru, hH1, q1, fun z h2 w H2 s2 hH2 rw' q2 => ?_⟩
    exact hc.nx _ h2 _ H2 (s1.trans s2) ((hE.mono (m1.trans (Stp.mo hH1 s2))).put rw') hH2 q2
/-! xs[i] op= e -/
def lowGet (K : KW) (r : R1) : V → V → Hp → VK → Prop := lowR K r
def getL (i : D) (h : MH) (Q : KD) (xs : List D) : Prop := match i with
  | .int k => match atI xs k with
    | some d => 0 ≤ k ∧ Q d h
    | none => False
  | _ => False
def getO (i : D) (h : MH) (Q : KD) : Option MO → Prop
  | some (.lst xs) => getL i h Q xs
  | some (.dic kvs) => ixDic kvs i h Q
  | _ => False
def getD1 : R1 := fun x y h Q => match x with
  | .ref p => getO y h Q (h p)
  | _ => False
theorem xd_get (hu : X.A.units + 64 < cLine) : PGet X (lowGet X.kw getD1) := by
  intro pins s σ H o i ov iv Q I ro ri ⟨d, e, h, QD, rx, ry, hH, hr, hc⟩
  cases d <;> first | (exact hr.elim) | skip
  rename_i p
  cases (show o = _ from rx)
  have hr : getO e h QD (h p) := hr
  cases q : h p with
  | none => rw [q] at hr; exact hr.elim
  | some u =>
    rw [q] at hr
    cases u with
    | lst xs =>
      have hr : getL e h QD xs := hr
      cases e <;> first | (exact hr.elim) | skip
      rename_i k _ _
      cases (show i = _ from ry)
      unfold getL at hr
      simp only at hr
      obtain ⟨vs, e, r⟩ := hH _ _ q
      cases e2 : atI xs k with
      | none => rw [e2] at hr; exact hr.elim
      | some z =>
        rw [e2] at hr
        obtain ⟨w, hw, rw'⟩ := atI_rep r.pair e2
        cases ro
        obtain ⟨t, rfl⟩ := ri
        obtain ⟨its, rv, pl, hz⟩ := I.list (SqL.of e)
        obtain ⟨j, j1, j2, j3, j4, j5⟩ := atI_get hw
        have hl := rv.length
        have hn := line63
        obtain ⟨uw, eu, ru⟩ := rv.get j2
        have hj : k.toNat = j := by
          rw [seqIndex_of hr.1 j5] at j1
          exact Option.some.inj j1
        exact wpAny_getItem_list pl.isList hr.1 (by omega) (by rw [hj]; simpa using eu) ⟨w, H, I, ru, hc.val hH rw' hr.2⟩
    | dic kvs =>
      cases ro
      obtain ⟨ft, hr⟩ := (show ixDic kvs e h QD from hr)
      cases g : dget kvs e with
      | none => rw [g] at hr; exact hr.elim
      | some f =>
        rw [g] at hr
        exact dd_getItem hu I (hH _ _ q) ry ri ft g fun w' s' I' ⟨z, rz, rf⟩ => ⟨z, H, I', rz, hc.val hH rf hr⟩
    | ins _ _ => exact hr.elim
def dAugS (to ti te : E1) (r : R1) : S1 := fun D σ h => to σ h fun o h1 => ti σ h1 fun i h2 => getD1 o i h2 fun x h3 => te σ h3 fun y h4 => r x y h4 fun z h5 => setD o i z h5 fun h6 => D.nx σ h6
theorem ds_augS (hu : X.A.units + 64 < cLine) {o i e : Expr} {to ti te : E1} {op : Operator} {r : R1} {pos tpos : Pos} (ho : DE X o to) (hi : DE X i ti) (he : DE X e te) (hp : PIp X op (lowIp X.kw r))
    (ha : ∀ ov iv new, augStore i ov iv new = (do holding [new, ov, iv] (setItem ov iv new); release [new, ov, iv] []; pure .next) := by intros; rfl) : DS X (.AugAssign (.Subscript o i tpos) op e pos) (dAugS to ti te r) :=
  weakS (ps_augS ho hi (xd_get hu) he hp (xd_set hu) ha) fun DV σV H ⟨D, σ, h, hE, hH, ht, hc⟩ => by
    refine ⟨σ, h, _, hE, hH, ht, fun a h1 x H1 s1 hH1 r1 q1 => ?_⟩
    have m1 := Stp.mo hH s1
    refine ⟨σ, h1, _, hE.mono m1, hH1, q1, fun b h2 y H2 s2 hH2 r2 q2 => ?_⟩
    have m2 := Stp.mo hH1 s2
    refine ⟨a, b, h2, _, RepV.mono m2 _ r1, r2, hH2, q2, fun d h3 z H3 s3 hH3 r3 q3 => ?_⟩
    have m3 := Stp.mo hH2 s3
    refine ⟨σ, h3, _, hE.mono ((m1.trans m2).trans m3), hH3, q3, fun e h4 u H4 s4 hH4 r4 q4 => ?_⟩
    have m4 := Stp.mo hH3 s4
    refine ⟨d, e, h4, _, RepV.mono m4 _ r3, r4, hH4, q4, fun f h5 w H5 s5 hH5 r5 q5 => ?_⟩
    have m5 := Stp.mo hH4 s5
    refine ⟨a, b, f, h5, _, RepV.mono ((m2.trans m3).trans (m4.trans m5)) _ r1, RepV.mono (m3.trans (m4.trans m5)) _ r2, r5, hH5, q5, fun h6 H6 s6 hH6 q6 => ?_⟩
    exact hc.nx σ h6 σV H6 (s1.trans (s2.trans (s3.trans (s4.trans (s5.trans s6))))) (hE.mono (((m1.trans m2).trans (m3.trans m4)).trans (m5.trans (Stp.mo hH5 s6)))) hH6 q6
end
end DL
namespace DL
open PySem PySem.Spec PyProof.Rows L2
/-! ### what is walked -/
structure SrcOk (K : KW) (J : It) (xs : List D) (stab : MH → Prop) (h1 : MH) (H1 : Hp) : Prop where
  go : ∀ h H i, Stp h1 H1 h H → RepH K h H → stab h → i < xs.length → J.go i H
  yl : ∀ h H i v H', Stp h1 H1 h H → RepH K h H → stab h → i < xs.length → J.yld i H v H' → ∃ d, xs[i]? = some d ∧ RepV K H' d v ∧ Stp h H h H' ∧ RepH K h H'
  st : ∀ h H, Stp h1 H1 h H → RepH K h H → stab h → J.stop xs.length H
abbrev I1 := Sl → MH → (List D → (MH → Prop) → MH → Prop) → Prop
def lowI (K : KW) (t : I1) : TI := fun σV H R => ∃ σ h Q, RepE K H σ σV ∧ RepH K h H ∧ t σ h Q ∧ ∀ xs stab h1 J H1, Stp h H h1 H1 → RepH K h1 H1 → SrcOk K J xs stab h1 H1 → Q xs stab h1 → R J H1
abbrev DI (X : Cx) (tg it : Expr) (t : I1) : Prop := PI X tg it (lowI X.kw t)
theorem weakI {X : Cx} {tg e : Expr} {t t' : TI} (p : PI X tg e t) (w : ∀ σ H Q, t' σ H Q → t σ H Q) : PI X tg e t' := ⟨fun pins s σ H Q I h => p.run pins s σ H Q I (w σ H Q h)⟩
/-- the signs of a text -/
def signs (z : Str) : List D := z.cps.toList.map fun c => .str ⟨#[c]⟩
def stabO (a : Addr) (xs : List D) : MH → Prop := fun h => h a = some (.lst xs)
def srcO (a : Addr) (h : MH) (Q : List D → (MH → Prop) → MH → Prop) : Option MO → Prop
  | some (.lst xs) => Q xs (stabO a xs) h
  | _ => False
/-- what a value is, walked -/
def srcD (d : D) (h : MH) (Q : List D → (MH → Prop) → MH → Prop) : Prop := match d with
  | .tup xs => Q xs (fun _ => True) h
  | .rol xs => Q xs (fun _ => True) h
  | .str z => Q (signs z) (fun _ => True) h
  | .ref a => srcO a h Q (h a)
  | _ => False
def iSeq (t : E1) : I1 := fun σ h Q => t σ h fun d h1 => srcD d h1 Q
section
variable {K : KW}
theorem src_tup {H1 : Hp} {h1 : MH} {a : Addr} {xs : List D} {vs : List V} (r1 : RepH K h1 H1) (s : SqT K.F H1 a vs) (r : RepVs K H1 xs vs) : SrcOk K (Itt K.F a) xs (fun _ => True) h1 H1 := by
  have up : ∀ h H, Stp h1 H1 h H → SqT K.F H a vs ∧ RepVs K H xs vs := fun h H q => ⟨(Stp.mo r1 q).t _ _ s, RepVs.mono (Stp.mo r1 q) _ r⟩
  refine ⟨fun h H i q _ _ hi => ?_, fun h H i v H' q rh _ hi y => ?_, fun h H q _ _ => ⟨vs, (up h H q).1, by rw [← r.length]; exact Nat.le_refl _⟩⟩
  · obtain ⟨w, ew, _⟩ := P2.get r.pair (List.getElem?_eq_getElem hi)
    exact ⟨vs, w, (up h H q).1, ew⟩
  · obtain ⟨rfl, y⟩ := y
    obtain ⟨d, ed, rd⟩ := P2.get' (up _ _ q).2.pair (y vs (up _ _ q).1)
    exact ⟨d, ed, rd, Stp.refl, rh⟩
theorem src_rol {H1 : Hp} {h1 : MH} {a : Addr} {xs : List D} {vs : List V} (r1 : RepH K h1 H1) (s : ROL K H1 a vs) (r : RepVs K H1 xs vs) : SrcOk K (Itl K.F a) xs (fun _ => True) h1 H1 := by
  have up : ∀ h H, Stp h1 H1 h H → SqL K.F H a vs ∧ RepVs K H xs vs := fun h H q => ⟨((Stp.mo r1 q).l _ _ s).sq, RepVs.mono (Stp.mo r1 q) _ r⟩
  refine ⟨fun h H i q _ _ hi => ?_, fun h H i v H' q rh _ hi y => ?_, fun h H q _ _ => ⟨vs, (up h H q).1, by rw [← r.length]; exact Nat.le_refl _⟩⟩
  · obtain ⟨w, ew, _⟩ := P2.get r.pair (List.getElem?_eq_getElem hi)
    exact ⟨vs, w, (up h H q).1, ew⟩
  · obtain ⟨rfl, y⟩ := y
    obtain ⟨d, ed, rd⟩ := P2.get' (up _ _ q).2.pair (y vs (up _ _ q).1)
    exact ⟨d, ed, rd, Stp.refl, rh⟩
theorem src_lst {H1 : Hp} {h1 : MH} {a : Addr} {xs : List D} : SrcOk K (Itl K.F a) xs (stabO a xs) h1 H1 := by
  refine ⟨fun h H i _ rh st hi => ?_, fun h H i v H' _ rh st hi y => ?_, fun h H _ rh st => ?_⟩
  · obtain ⟨vs, e, r⟩ := rh a _ st
    obtain ⟨w, ew, _⟩ := P2.get r.pair (List.getElem?_eq_getElem hi)
    exact ⟨vs, w, SqL.of e, ew⟩
  · obtain ⟨vs, e, r⟩ := rh a _ st
    obtain ⟨rfl, y⟩ := y
    obtain ⟨d, ed, rd⟩ := P2.get' r.pair (y vs (SqL.of e))
    exact ⟨d, ed, rd, Stp.refl, rh⟩
  · obtain ⟨vs, e, r⟩ := rh a _ st
    exact ⟨vs, SqL.of e, by rw [← r.length]; exact Nat.le_refl _⟩
theorem src_str {H1 : Hp} {h1 : MH} {z : Str} (ok : okS z) : SrcOk K (Its z) (signs z) (fun _ => True) h1 H1 := by
  have len : (signs z).length = z.cps.size := by unfold signs; rw [List.length_map, Array.length_toList]
  refine ⟨fun h H i _ _ _ hi => ?_, fun h H i v H' _ rh _ hi y => ?_, fun h H _ _ _ => ?_⟩
  · show i < z.cps.size
    rw [← len]; exact hi
  · obtain ⟨rfl, c, ec, rfl⟩ := y
    refine ⟨.str ⟨#[c]⟩, ?_, ⟨rfl, ?_⟩, Stp.refl, rh⟩
    · unfold signs
      rw [List.getElem?_map, Array.getElem?_toList, ec]; rfl
    · refine ⟨by show 1 ≤ sizeLine; decide, ?_⟩
      have o := ok.2
      unfold PyData.strOk at o ⊢
      rw [Array.all_eq_true] at o
      obtain ⟨hlt, e⟩ := Array.getElem?_eq_some_iff.mp ec
      have := o i hlt
      rw [e] at this
      rw [← Array.all_toList, List.all_cons, List.all_nil, Bool.and_true]; exact this
  · show z.cps.size ≤ (signs z).length
    rw [len]; exact Nat.le_refl _
def rgD (lo : Int) (n : Nat) : List D := (List.range n).map fun i => .int (lo + (i : Nat))
theorem src_rng {H1 : Hp} {h1 : MH} {lo : Int} {n : Nat} : SrcOk K (Itr lo n) (rgD lo n) (fun _ => True) h1 H1 := by
  have len : (rgD lo n).length = n := by unfold rgD; rw [List.length_map, List.length_range]
  refine ⟨fun h H i _ _ _ hi => ?_, fun h H i v H' _ rh _ hi y => ?_, fun h H _ _ _ => ?_⟩
  · show i < n
    rw [← len]; exact hi
  · obtain ⟨rfl, rfl⟩ := y
    rw [len] at hi
    refine ⟨.int (lo + (i : Nat)), ?_, rfl, Stp.refl, rh⟩
    unfold rgD
    rw [List.getElem?_map, List.getElem?_range hi]; rfl
  · show n ≤ (rgD lo n).length
    rw [len]; exact Nat.le_refl _
end
section
variable {X : Cx}
theorem di_seq {tg e : Expr} {t : E1} (he : DE X e t) : DI X tg e (iSeq t) := by
  refine ⟨fun pins s σV H R I ⟨σ, h, Q, hE, hH, ht, hc⟩ => ?_⟩
  refine thn (he.run pins s σV H (fun v H' => ∃ d h', Stp h H h' H' ∧ RepH X.kw h' H' ∧ RepV X.kw H' d v ∧ srcD d h' Q) I ⟨σ, h, _, hE, hH, ht, fun d h' v H' s' r' rv q => ⟨d, h', s', r', rv, q⟩⟩) fun u s1 ⟨v, H1, I1, r1, d, h1, st1, rh1, rv, q⟩ => ?_
  cases d with
  | tup xs =>
    obtain ⟨a, vs, rfl, sq, rr⟩ := rv
    cases r1
    obtain ⟨its, _, tp, _⟩ := I1.tuple sq
    refine wpAny_pyIter_tuple (show s1.heap.IsTuple a its.toArray from tp) (pi_one (tk := s1.toks) I1 _ (turn_tuple a _) ?_ (hc _ _ _ _ _ st1 rh1 (src_tup rh1 sq rr) q))
    exact ⟨_, Heap.get?_push_size _ rfl, rfl, rfl⟩
  | rol xs =>
    obtain ⟨a, vs, rfl, sq, rr⟩ := rv
    cases r1
    obtain ⟨its, _, tp, _⟩ := I1.list sq.sq
    refine wpAny_pyIter_list tp.isList (pi_one (tk := s1.toks) I1 _ (turn_list a _) ?_ (hc _ _ _ _ _ st1 rh1 (src_rol rh1 sq rr) q))
    exact ⟨_, Heap.get?_push_size _ rfl, rfl, rfl⟩
  | ref a =>
    cases (show v = _ from rv)
    cases r1
    have q : srcO a h1 Q (h1 a) := q
    cases e : h1 a with
    | none => rw [e] at q; exact q.elim
    | some o =>
      cases o with
      | lst xs =>
        rw [e] at q
        obtain ⟨vs, eH, rr⟩ := rh1 a _ e
        obtain ⟨its, _, tp, _⟩ := I1.list (SqL.of eH)
        refine wpAny_pyIter_list tp.isList (pi_one (tk := s1.toks) I1 _ (turn_list a _) ?_ (hc _ _ _ _ _ st1 rh1 src_lst q))
        exact ⟨_, Heap.get?_push_size _ rfl, rfl, rfl⟩
      | dic _ => rw [e] at q; exact q.elim
      | ins _ _ => rw [e] at q; exact q.elim
  | str z =>
    obtain ⟨rfl, ok⟩ := rv
    obtain ⟨t, rfl⟩ := r1
    have fin : R (Its z) H1 := hc _ _ _ _ _ st1 rh1 (src_str ok) q
    cases ha : z.cps.all (· < 128)
    · refine wpAny_pyIter_wide ha (pi_one (tk := s1.toks) I1 _ (turn_str _ z t "str_iterator" (.inr rfl)) ?_ fin)
      exact ⟨_, Heap.get?_push_size _ rfl, rfl, rfl⟩
    · refine wpAny_pyIter_ascii ha (pi_one (tk := s1.toks) I1 _ (turn_str _ z t "str_ascii_iterator" (.inl rfl)) ?_ fin)
      exact ⟨_, Heap.get?_push_size _ rfl, rfl, rfl⟩
  | _ => exact q.elim
def rg1 (ds : List D) (h : MH) (Q : List D → (MH → Prop) → MH → Prop) : Prop := match ds with
  | [.int j] => (-(2 ^ 62) ≤ j ∧ j < 2 ^ 62) ∧ Q (rgD 0 j.toNat) (fun _ => True) h
  | _ => False
def iRg1 (ta : A1) : I1 := fun σ h Q => ta σ h fun ds h1 => rg1 ds h1 Q
theorem rg1_inv {ds : List D} {h : MH} {Q : List D → (MH → Prop) → MH → Prop} (q : rg1 ds h Q) : ∃ j, ds = [.int j] ∧ (-(2 ^ 62) ≤ j ∧ j < 2 ^ 62) ∧ Q (rgD 0 j.toNat) (fun _ => True) h := by
  unfold rg1 at q
  split at q
  · exact ⟨_, rfl, q.1, q.2⟩
  · exact q.elim
theorem di_range1 {tg a : Expr} {ta : A1} {p pos : Pos} (hg : Gl X "range") (hm : X.mg "range" = none) (ha : DA X [a] ta) (hs : starEach [a] X.env = [(false, eval a X.env)] := by rfl) : DI X tg (.Call (.Name "range" p) [a] [] pos) (iRg1 ta) :=
  weakI (pi_range1 hg hm ha hs) fun σV H R ⟨σ, h, Q, hE, hH, ht, hc⟩ => ⟨σ, h, _, hE, hH, ht, fun ds h' vs H' s' r' rv q => by
    obtain ⟨j, rfl, b, q⟩ := rg1_inv q
    obtain ⟨v, r, rfl, r1, r2⟩ := rv
    cases (show v = _ from r1)
    cases (show r = [] from r2)
    exact ⟨j, rfl, b.1, b.2, hc _ _ _ _ _ s' r' src_rng q⟩⟩
def rg2 (ds : List D) (h : MH) (Q : List D → (MH → Prop) → MH → Prop) : Prop := match ds with
  | [.int i, .int j] => (-(2 ^ 62) ≤ i ∧ i < 2 ^ 62 ∧ -(2 ^ 62) ≤ j ∧ j < 2 ^ 62) ∧ Q (rgD i (j - i).toNat) (fun _ => True) h
  | _ => False
def iRg2 (ta : A1) : I1 := fun σ h Q => ta σ h fun ds h1 => rg2 ds h1 Q
theorem rg2_inv {ds : List D} {h : MH} {Q : List D → (MH → Prop) → MH → Prop} (q : rg2 ds h Q) : ∃ i j, ds = [.int i, .int j] ∧ (-(2 ^ 62) ≤ i ∧ i < 2 ^ 62 ∧ -(2 ^ 62) ≤ j ∧ j < 2 ^ 62) ∧ Q (rgD i (j - i).toNat) (fun _ => True) h := by
  unfold rg2 at q
  split at q
  · exact ⟨_, _, rfl, q.1, q.2⟩
  · exact q.elim
theorem di_range2 {tg a b : Expr} {ta : A1} {p pos : Pos} (hg : Gl X "range") (hm : X.mg "range" = none) (ha : DA X [a, b] ta) (hs : starEach [a, b] X.env = [(false, eval a X.env), (false, eval b X.env)] := by rfl) (hs2 : starEach [b] X.env = [(false, eval b X.env)] := by rfl) : DI X tg (.Call (.Name "range" p) [a, b] [] pos) (iRg2 ta) :=
  weakI (pi_range2 hg hm ha hs hs2) fun σV H R ⟨σ, h, Q, hE, hH, ht, hc⟩ => ⟨σ, h, _, hE, hH, ht, fun ds h' vs H' s' r' rv q => by
    obtain ⟨i, j, rfl, b, q⟩ := rg2_inv q
    obtain ⟨v, r, rfl, r1, v2, r2, rfl, r3, r4⟩ := rv
    cases (show v = _ from r1)
    cases (show v2 = _ from r3)
    cases (show r2 = [] from r4)
    exact ⟨i, j, rfl, b, hc _ _ _ _ _ s' r' src_rng q⟩⟩
/-! ### loops -/
/-- at less than what stands -/
def Lw (I : Sl → MH → Prop) : Sl → MH → Prop := fun σ h => ∃ σ0 h0, leS σ0 σ ∧ le h0 h ∧ I σ0 h0
theorem Lw.of {I : Sl → MH → Prop} {σ : Sl} {h : MH} (q : I σ h) : Lw I σ h := ⟨σ, h, leS.refl, le.refl, q⟩
def dWhile (c : T1) (tb : S1) : S1 := fun D σ h => ∃ I : Nat → Sl → MH → Prop, (∃ m, Lw (I m) σ h) ∧ ∀ m σ h, I m σ h → c σ h fun b h1 =>
  if b = true then tb { D with nx := fun σ' h' => ∃ m', m' < m ∧ Lw (I m') σ' h', ct := fun σ' h' => ∃ m', m' < m ∧ Lw (I m') σ' h', bk := D.nx } σ h1 else D.nx σ h1
theorem ds_while {c : Expr} {body : List Stmt} {tc : T1} {tb : S1} {pos : Pos} (hp : PassesOwn (model X.prog X.w) X.A X.env X.xe) (hc : DT X c tc) (hb : DSs X body tb) : DS X (.While c body [] pos) (dWhile tc tb) :=
  weakS (ps_while hp hc hb) fun DV σV H ⟨D, σ, h, hE, hH, ⟨I, ⟨m0, σ0, h0, w1, w2, i0⟩, turn⟩, hcl⟩ => by
    refine ⟨fun m σV' H' => ∃ σ' h', Stp h H h' H' ∧ RepE X.kw H' σ' σV' ∧ RepH X.kw h' H' ∧ I m σ' h', ⟨m0, σ0, h0, Stp.low Stp.refl w2, hE.low w1, hH.low w2, i0⟩, ?_⟩
    rintro m σV1 H1 ⟨σ1, h1, s1, e1, r1, i1⟩
    refine ⟨σ1, h1, _, e1, r1, turn m σ1 h1 i1, fun b h2 H2 s2 r2 q => ?_⟩
    have e2 := e1.mono (Stp.mo r1 s2)
    cases b with
    | false =>
      rw [if_neg Bool.false_ne_true] at q
      exact iteF (hcl.nx _ _ _ _ (s1.trans s2) e2 r2 q)
    | true =>
      rw [if_pos rfl] at q
      refine iteT ?_
      refine ⟨fun σV' H' => ∃ m', m' < m ∧ ∃ σ' h', Stp h H h' H' ∧ RepE X.kw H' σ' σV' ∧ RepH X.kw h' H' ∧ I m' σ' h', fun σ' H' z => z, ?_⟩
      have back : ClN X.kw h2 H2 (fun σ' h' => ∃ m', m' < m ∧ Lw (I m') σ' h') fun σV' H' => ∃ m', m' < m ∧ ∃ σ' h', Stp h H h' H' ∧ RepE X.kw H' σ' σV' ∧ RepH X.kw h' H' ∧ I m' σ' h' := fun σ' h' σV' H' s' e' r' ⟨m', hm, σ0, h0, w1, w2, i0⟩ =>
        ⟨m', hm, σ0, h0, ((s1.trans s2).trans s').low w2, e'.low w1, r'.low w2, i0⟩
      exact ⟨_, σ1, h2, e2, r2, q, ⟨back, (hcl.rt.step (s1.trans s2)), hcl.nx.step (s1.trans s2), back⟩⟩
def dFor (it : I1) (g : G1) (tb : S1) : S1 := fun D σ h => it σ h fun xs stab h1 => ∃ I : Nat → Sl → MH → Prop, Lw (I 0) σ h1 ∧ (∀ i σ h, I i σ h → stab h) ∧
  (∀ i x σ h, xs[i]? = some x → I i σ h → g x σ h fun σ2 h2 => tb { D with nx := Lw (I (i + 1)), ct := Lw (I (i + 1)), bk := D.nx } σ2 h2) ∧ ∀ σ h, I xs.length σ h → D.nx σ h
theorem ds_for {tg iter : Expr} {body : List Stmt} {wi : I1} {g : G1} {tb : S1} {pos : Pos} (hp : PassesOwn (model X.prog X.w) X.A X.env X.xe) (hc : X.calm = true) (hi : DI X tg iter wi) (hg : DG X P0 tg g) (hb : DSs X body tb)
    (hs : ∀ x, foldedSetIterable iter X.env x = pure x := by intro _; rfl) : DS X (.For tg iter body [] pos) (dFor wi g tb) :=
  weakS (ps_for hp hc hi hg hb hs) fun DV σV H ⟨D, σ, h, hE, hH, ht, hcl⟩ => by
    refine ⟨σ, h, _, hE, hH, ht, fun xs stab h1 J H1 s1 r1 so ⟨I, ⟨σ0, h0, w1, w2, i0⟩, st, turn, fin⟩ => ?_⟩
    have e1 := hE.mono (Stp.mo hH s1)
    refine ⟨fun i m σV' H' => m = xs.length - i ∧ i ≤ xs.length ∧ ∃ σ' h', Stp h1 H1 h' H' ∧ RepE X.kw H' σ' σV' ∧ RepH X.kw h' H' ∧ I i σ' h', ⟨xs.length, rfl, Nat.zero_le _, σ0, h0, Stp.low Stp.refl w2, e1.low w1, r1.low w2, i0⟩, ?_⟩
    rintro i m σV2 H2 ⟨rfl, hi, σ2, h2, s2, e2, r2, i2⟩
    by_cases lt : i < xs.length
    · refine .inr ⟨so.go h2 H2 i s2 r2 (st _ _ _ i2) lt, fun σV' H' => ∃ σ' h', Stp h1 H1 h' H' ∧ RepE X.kw H' σ' σV' ∧ RepH X.kw h' H' ∧ I (i + 1) σ' h', fun σ' H' z => ⟨xs.length - (i + 1), by omega, rfl, lt, z⟩, fun v H3 y => ?_⟩
      obtain ⟨d, ed, rd, s3, r3⟩ := so.yl h2 H2 i v H3 s2 r2 (st _ _ _ i2) lt y
      refine ⟨d, σ2, h2, _, rd, e2.mono (Stp.mo r2 s3), r3, turn i d σ2 h2 ed i2, fun σ4 h4 σV4 H4 _ s4 e4 r4 q4 => ?_⟩
      have back : ClN X.kw h4 H4 (Lw (I (i + 1))) fun σV' H' => ∃ σ' h', Stp h1 H1 h' H' ∧ RepE X.kw H' σ' σV' ∧ RepH X.kw h' H' ∧ I (i + 1) σ' h' := fun σ' h' σV' H' s' e' r' ⟨σ0, h0, w1, w2, i0⟩ =>
        ⟨σ0, h0, ((s2.trans (s3.trans s4)).trans s').low w2, e'.low w1, r'.low w2, i0⟩
      have all := s1.trans (s2.trans (s3.trans s4))
      exact ⟨_, σ4, h4, e4, r4, q4, ⟨back, hcl.rt.step all, hcl.nx.step all, back⟩⟩
    · have e : i = xs.length := by omega
      subst e
      exact .inl ⟨so.st h2 H2 s2 r2 (st _ _ _ i2), hcl.nx _ _ _ _ (s1.trans s2) e2 r2 (fin σ2 h2 i2)⟩
/-! ### comprehensions -/
def wipeD (σ : Sl) : List Nat → Sl
  | [] => σ
  | v :: vs => put (wipeD σ vs) v none
theorem wipeD_len (σ : Sl) : ∀ vs, (wipeD σ vs).length = σ.length
  | [] => rfl
  | v :: vs => by show (put _ v none).length = _; rw [put_len, wipeD_len σ vs]
theorem wipeD_nth {σ : Sl} {j : Nat} {e : D} : ∀ {vs : List Nat}, nth (wipeD σ vs) j = some e → nth σ j = some e ∧ j ∉ vs
  | [], h => ⟨h, by simp⟩
  | v :: vs, h => by
    rcases nth_put _ v j none h with ⟨_, q⟩ | ⟨n, q⟩
    · cases q
    · obtain ⟨a, b⟩ := wipeD_nth q
      exact ⟨a, by simp [n, b]⟩
theorem wipe_at {σ : L2.St} {j : Nat} : ∀ {vs : List Nat}, j ∉ vs → (wipe σ vs)[j]? = σ[j]?
  | [], _ => rfl
  | v :: vs, h => by
    rw [List.mem_cons, not_or] at h
    show ((wipe σ vs).set v none)[j]? = _
    rw [List.getElem?_set_ne (Ne.symm h.1), wipe_at h.2]
theorem RepE.wipe {K : KW} {H : Hp} {σ : Sl} {σV : L2.St} (r : RepE K H σ σV) (vs : List Nat) : RepE K H (wipeD σ vs) (L2.wipe σV vs) := by
  refine ⟨by rw [wipeD_len, wipe_length]; exact r.len, fun i d e => ?_⟩
  obtain ⟨a, b⟩ := wipeD_nth e
  obtain ⟨v, x, y⟩ := r.val i d a
  exact ⟨v, by rw [wipe_at b]; exact x, y⟩
theorem wipe_wipe {σ : L2.St} : ∀ {vs : List Nat} (ws : List Nat), (∀ v ∈ vs, v ∈ ws) → L2.wipe (L2.wipe σ vs) ws = L2.wipe σ ws
  | [], _, _ => rfl
  | v :: vs, ws, h => by
    show L2.wipe ((L2.wipe σ vs).set v none) ws = _
    rw [wipe_put ws _ (h v (by simp)), wipe_wipe ws fun u hu => h u (by simp [hu])]
def dLc (it : I1) (g : G1) (tt : T1) (te : E1) (vs : List Nat) : E1 := fun σ h Q => it σ h fun xs stab h1 => xs.length ≤ sizeLine ∧ ∃ I : Nat → List D → MH → Prop, (∃ h0, le h0 h1 ∧ I 0 [] h0) ∧ (∀ i a h, I i a h → stab h) ∧
  (∀ i x a h, xs[i]? = some x → I i a h → g x (wipeD σ vs) h fun σ2 h2 => tt σ2 h2 fun b h3 => if b = true then te σ2 h3 fun y h4 => ∃ h5, le h5 h4 ∧ I (i + 1) (a ++ [y]) h5 else ∃ h5, le h5 h3 ∧ I (i + 1) a h5) ∧
  ∀ a h, I xs.length a h → ∀ p, h p = none → Q (.ref p) (up h p (.lst a))
abbrev DTs (X : Cx) (ifs : List Expr) (t : T1) : Prop := PTs X ifs (lowT X.kw t)
def dYes : T1 := fun _ h Q => Q true h
theorem dts_nil : DTs X [] dYes := ⟨fun pins s σV H QV I ⟨σ, h, Q, hE, hH, ht, hc⟩ => pts_nil.run pins s σV H QV I (hc true h H Stp.refl hH ht)⟩
theorem dts_one {c : Expr} {t : T1} (h : DT X c t) : DTs X [c] t := pts_one h
theorem low_lc {K : KW} {it : I1} {g : G1} {tt : T1} {te : E1} {vs : List Nat} {σV : L2.St} {H : Hp} {QV : VK} (q : lowE K (dLc it g tt te vs) σV H QV) :
    tLc (lowI K it) (lowG K (Pw vs) g) (lowT K tt) (lowE K te) vs σV H QV := by
  obtain ⟨σ, h, Q, hE, hH, ht, hc⟩ := q
  refine ⟨σ, h, _, hE, hH, ht, fun xs stab h1 J H1 s1 r1 so ⟨hz, I, ⟨h0, w0, i0⟩, st, turn, fin⟩ A nA => ?_⟩
  have e1 := (hE.mono (Stp.mo hH s1)).wipe vs
  have h0A : h0 A = none := by
    cases z : h0 A with
    | none => rfl
    | some u => have := w0 A u z; rw [r1.nofresh nA] at this; cases this
  refine ⟨fun i m H' => m = xs.length - i ∧ i ≤ xs.length ∧ ∃ a av h', H' A = some (.lst av) ∧ RepVs K H' a av ∧ a.length ≤ i ∧ Stp h1 H1 h' H' ∧ RepH K h' H' ∧ h' A = none ∧ RepE K H' (wipeD σ vs) (L2.wipe σV vs) ∧ I i a h', ⟨xs.length, rfl, Nat.zero_le _, [], [], h0, upd_same, rfl, Nat.zero_le _, ?_, ?_, h0A, ?_, i0⟩, ?_⟩
  · exact (Stp.hide nA).low w0
  · exact (r1.hide nA).low w0
  · exact e1.mono (Stp.mo r1 (Stp.hide nA))
  rintro i m H2 ⟨rfl, hi, a, av, h2, eA, ra, la, s2, r2, hA, e2, i2⟩
  by_cases lt : i < xs.length
  · refine .inr ⟨so.go h2 H2 i s2 r2 (st _ _ _ i2) lt, fun H' => ∃ a av h', H' A = some (.lst av) ∧ RepVs K H' a av ∧ a.length ≤ i + 1 ∧ Stp h1 H1 h' H' ∧ RepH K h' H' ∧ h' A = none ∧ RepE K H' (wipeD σ vs) (L2.wipe σV vs) ∧ I (i + 1) a h', fun H' z => ⟨xs.length - (i + 1), by omega, rfl, lt, z⟩, fun v H3 y => ?_⟩
    obtain ⟨d, ed, rd, s3, r3⟩ := so.yl h2 H2 i v H3 s2 r2 (st _ _ _ i2) lt y
    refine ⟨d, wipeD σ vs, h2, _, rd, e2.mono (Stp.mo r2 s3), r3, turn i d a h2 ed i2, fun σ4 h4 σV4 H4 p4 s4 e4 r4 q4 => ⟨?_, ?_⟩⟩
    · have p4 : L2.wipe σV4 vs = L2.wipe (L2.wipe σV vs) vs := p4
      rw [p4, wipe_wipe vs fun _ z => z]
    refine ⟨σ4, h4, _, e4, r4, q4, fun b h5 H5 s5 r5 q5 => ?_⟩
    have s35 := s3.trans (s4.trans s5)
    have m35 := Stp.mo r2 s35
    obtain ⟨hA5, eA5⟩ := s35 A _ hA eA
    cases b with
    | false =>
      rw [if_neg Bool.false_ne_true] at q5
      refine iteF ?_
      obtain ⟨h6, w6, i6⟩ := q5
      refine ⟨a, av, h6, eA5, RepVs.mono m35 _ ra, by omega, (s2.trans s35).low w6, r5.low w6, ?_, e2.mono m35, i6⟩
      cases z : h6 A with
      | none => rfl
      | some u => have := w6 A u z; rw [hA5] at this; cases this
    | true =>
      rw [if_pos rfl] at q5
      refine iteT ?_
      refine ⟨σ4, h5, _, e4.mono (Stp.mo r4 s5), r5, q5, fun y h6 yv H6 s6 r6 ry ⟨h7, w7, i7⟩ => ?_⟩
      have s36 := s35.trans s6
      have m36 := Stp.mo r2 s36
      obtain ⟨hA6, eA6⟩ := s36 A _ hA eA
      have hA7 : h7 A = none := by
        cases z : h7 A with
        | none => rfl
        | some u => have := w7 A u z; rw [hA6] at this; cases this
      -- the new list is hidden: its growth is seen by nobody
      have ne : ∀ c u, H6 c = some u → h6 c = none → c ≠ A → upd H6 A (.lst (av ++ [yv])) c = some u := fun c u e _ n => by rw [upd_ne n]; exact e
      have mo7 : Mo K H6 (upd H6 A (.lst (av ++ [yv]))) := by
        refine ⟨fun c ys q => ?_, fun c ys q => ?_⟩
        · rcases q with (q | ⟨o, q⟩) | q
          · exact .inl (.inl (by rw [upd_ne (ne_of q eA6 (by intro z; cases z))]; exact q))
          · exact .inl (.inr ⟨o, by rw [upd_ne (ne_of q eA6 (by intro z; cases z))]; exact q⟩)
          · exact .inr q
        · rcases q with ⟨o, q⟩ | q
          · exact .inl ⟨o, by rw [upd_ne (ne_of q eA6 (by intro z; cases z))]; exact q⟩
          · exact .inr q
      have r7 : RepH K h7 (upd H6 A (.lst (av ++ [yv]))) := fun c u e => by
        have nc : c ≠ A := fun z => by rw [z, hA7] at e; cases e
        exact (r6 c u (w7 c u e)).mono mo7 fun x f => by rw [upd_ne nc]; exact f
      refine ⟨av, eA6, ?_, a ++ [y], av ++ [yv], h7, upd_same, RepVs.mono mo7 _ (.of (P2.append (RepVs.mono m36 _ ra).pair (.cons ry .nil))), by rw [List.length_append, List.length_singleton]; omega, ?_, r7, hA7, (e2.mono m36).mono mo7, i7⟩
      · rw [← (RepVs.mono m36 _ ra).length]
        omega
      · intro c u e f
        obtain ⟨x1, x2⟩ := ((s2.trans s36).low w7) c u e f
        have nc : c ≠ A := fun z => by rw [z, nA] at f; cases f
        exact ⟨x1, by rw [upd_ne nc]; exact x2⟩
  · have e : i = xs.length := by omega
    subst e
    refine .inl ⟨so.st h2 H2 s2 r2 (st _ _ _ i2), ?_⟩
    have fq := fin a h2 i2 A hA
    refine hc (.ref A) (up h2 A (.lst a)) (.ref A) H2 ?_ ?_ rfl fq
    · intro c u x y
      obtain ⟨x1, y1⟩ := s1 c u x y
      have nc : c ≠ A := fun z => by rw [z, nA] at y1; cases y1
      obtain ⟨x2, y2⟩ := s2 c u x1 y1
      exact ⟨by rw [up_ne nc]; exact x2, y2⟩
    · intro c u x
      by_cases z : c = A
      · subst z
        rw [up_same] at x; cases x
        exact ⟨av, eA, ra⟩
      · rw [up_ne z] at x
        exact r2 c u x
theorem de_lc {elt tg iter : Expr} {ifs : List Expr} {scope : Scope} {own : List (Str × Nat)} {pos : Pos} {wi : I1} {g : G1} {tt : T1} {te : E1} (hc : X.calm = true) (hN : X.N.Nodup) (hi : DI X tg iter wi) (ok : BlkOk X.N X.env.scope scope own)
    (hg : ∀ (s : Shared) (H : Hp) (C : Addr) (cl : List (Str × Addr)) (fp : List Addr), DG (X.blk s H scope (compEnvC scope cl C X.env) fp) (Pw (own.map (·.2))) tg g) (ht : ∀ (s : Shared) (H : Hp) (C : Addr) (cl : List (Str × Addr)) (fp : List Addr), DTs (X.blk s H scope (compEnvC scope cl C X.env) fp) ifs tt)
    (he : ∀ (s : Shared) (H : Hp) (C : Addr) (cl : List (Str × Addr)) (fp : List Addr), DE (X.blk s H scope (compEnvC scope cl C X.env) fp) elt te) (hs : ∀ x, foldedSetIterable iter X.env x = pure x := by intro _; rfl) :
    DE X (.ListComp elt [⟨tg, iter, ifs, 0⟩] scope pos) (dLc wi g tt te (own.map (·.2))) := weakE (pe_lc hc hN hi ok hg ht he hs) fun _ _ _ q => low_lc q
theorem ds_setLc (i : Nat) {y : Str} {py : Pos} {elt tg iter : Expr} {ifs : List Expr} {scope : Scope} {own : List (Str × Nat)} {pos spos : Pos} {wi : I1} {g : G1} {tt : T1} {te : E1} (hc : X.calm = true) (hN : X.N.Nodup) (hy : X.N[i]? = some y) (hyl : X.env.scope.names.lookup y = some .local)
    (hsw : swapsWith (.ListComp elt [⟨tg, iter, ifs, 0⟩] scope pos) (some (.Name y py)) spos.line X.env = pure true) (hi : DI X tg iter wi) (ok : BlkOk X.N X.env.scope scope own)
    (hg : ∀ (s : Shared) (H : Hp) (C : Addr) (cl : List (Str × Addr)) (fp : List Addr), DG (X.blk s H scope (compEnvC scope cl C X.env) fp) (Pw (own.map (·.2))) tg g) (ht : ∀ (s : Shared) (H : Hp) (C : Addr) (cl : List (Str × Addr)) (fp : List Addr), DTs (X.blk s H scope (compEnvC scope cl C X.env) fp) ifs tt)
    (he : ∀ (s : Shared) (H : Hp) (C : Addr) (cl : List (Str × Addr)) (fp : List Addr), DE (X.blk s H scope (compEnvC scope cl C X.env) fp) elt te) (hs : ∀ x, foldedSetIterable iter X.env x = pure x := by intro _; rfl) :
    DS X (.Assign [.Name y py] (.ListComp elt [⟨tg, iter, ifs, 0⟩] scope pos) spos) (dAsg (dLc wi g tt te (own.map (·.2))) (gN i)) :=
  weakS (ps_setLc (i := i) hc hN hy hyl hsw hi ok hg ht he hs) fun DV σV H ⟨D, σ, h, hE, hH, ht, hcl⟩ => low_lc ⟨σ, h, _, hE, hH, ht, fun d h' v H' s' r' rv q => hcl.nx _ h' _ H' s' ((hE.mono (Stp.mo hH s')).put rv) r' q⟩
end
end DL
namespace DL
open PySem PySem.Spec PyProof.Rows L2
/-! ### promises of defs that are called where nothing is being shown (repr asks that) -/
structure RoomG (k : Nat) (A : Around) : Prop where
  r : Room k A
  g : A.guards = some []
theorem RoomG.mono {j k : Nat} {A : Around} (q : RoomG k A) (h : j ≤ k) : RoomG j A := ⟨q.r.mono h, q.g⟩
theorem RoomG.deeper {k : Nat} {A : Around} (q : RoomG (k + 1) A) (e : Env) : RoomG k (A.deeper e) := ⟨q.r.deeper e, q.g⟩
structure FnG (P : Program) (w : World) (K : PySem.W.Frag) (mg : Str → Option Value) (base : Heap) (k : Nat) (f : Addr) (fd : FuncData) (ps : List Str) (sp : Sp) : Prop where
  len : ∀ vs H Q E, sp vs H Q E → vs.length = ps.length
  run : ∀ (A : Around) (outer : List Env) (s : Shared) (H : Hp) (args : Args) (us : List Value) (vs : List V) (Q : VK) (E : XK), RoomG k A → Env0 P w K mg base A outer s H → BindsTo s fd args (ps.zip us) → Vals vs us → sp vs H Q E → codeAny (model P w) A (.call (.ref f) args) (CR CX0 outer P w H s Q E) s
section
variable {P : Program} {w : World} {K : PySem.W.Frag} {mg : Str → Option Value} {base : Heap} {j k : Nat} {f : Addr} {fd : FuncData} {ps : List Str} {sp sp' : Sp}
theorem FnG.mono (F : FnG P w K mg base j f fd ps sp) (h : j ≤ k) : FnG P w K mg base k f fd ps sp := ⟨F.len, fun A o s H a us vs Q E q => F.run A o s H a us vs Q E (q.mono h)⟩
theorem FnG.imp (F : FnG P w K mg base k f fd ps sp) (h : ∀ vs H Q E, sp' vs H Q E → sp vs H Q E) : FnG P w K mg base k f fd ps sp' := ⟨fun vs H Q E q => F.len vs H Q E (h _ _ _ _ q), fun A o s H a us vs Q E q e b v z => F.run A o s H a us vs Q E q e b v (h _ _ _ _ z)⟩
/-- a def by its body -/
theorem fng_of {x qual : Str} {st : Stmt} {N : List Str} (F : Fun K x qual st f fd) (S : FnScope N ps (defScope st)) (len : ∀ vs H Q E, sp vs H Q E → vs.length = ps.length)
    (hb : ∀ (cdv : Value) (A : Around) (outer : List Env) (s : Shared) (H : Hp) (vs : List V) (Q : VK) (E : XK), RoomG k (A.deeper (envOfC qual (defScope st) s.heap.objs.size f cdv)) → sp vs H Q E →
      ∃ t, PSs (cxOf CX0 P w K mg base N qual (defScope st) f cdv A outer s H E) (defBody st) t ∧ t { nx := fun _ H' => Q .non H', rt := Q } (start N vs) H) : FnG P w K mg base (k + 1) f fd ps sp := by
  obtain ⟨oc, od, kV, doc, pm, an, cdv, ct, osl, rfl, lk, hcd⟩ := F.ex
  refine ⟨len, fun A outer s H args us vs Q E q e0 bt rv hs => ?_⟩
  have len1 := len _ _ _ _ hs
  have Kin : K.In s.heap := e0.mod.kin.keeps fun b o e => (e0.bs b o e).1
  have noLim : s.heap.NoLimit := e0.mod.nolimit.keeps fun b o e => (e0.bs b o e).1
  have kinds : ∀ y ∈ ps.zip us, (defScope st).names.lookup y.1 = some .local ∨ ((defScope st).names.lookup y.1 = some .cell ∧ ((cellsFrom (s.heap.objs.size + 1) (defScope st).names []).lookup y.1).isSome = true) := fun ⟨n, v⟩ hy =>
    (S.par n (List.of_mem_zip hy).1).elim .inl fun z => .inr ⟨z, PySem.W.cellsFrom_some _ _ _ (.inl z)⟩
  refine codeAny_call_function q.r.depth (Kin _ _ lk) rfl S.co S.gen rfl (PySem.W.codeRec_of Kin hcd) (bt _ _ _ _ (wpAny_newFunctionEnv_cells S.kind kinds fun env he s1 x => ?_))
  subst he
  refine ⟨noLim.keeps x.toInCall.keep, codeAny_func ?_⟩
  obtain ⟨t, ht, hq⟩ := hb cdv A outer s H vs Q E (q.deeper _) hs
  have I0 : Inv (cxOf CX0 P w K mg base N qual (defScope st) f cdv A outer s H E) [] (start N vs) H s1 := inv_start S q.r.hd e0 len1 rv x
  refine wpAny_mono (ht.run [] s1 (start N vs) H _ I0 hq) (fun fl s' z => ?_) fun _ _ z => z
  have out : ∀ {σ' : L2.St} {H' : Hp} {v : V} {u : Value}, Inv (cxOf CX0 P w K mg base N qual (defScope st) f cdv A outer s H E) [] σ' H' s' → RelV v u → Q v H' → CE outer P w H s Q u s' := fun {_ H' v _} J rv y => ⟨v, H', J.os, J.bare, J.base, J.hok, rv, y⟩
  cases fl with
  | ret u => exact let ⟨_, _, _, J, rv, y⟩ := z; out J rv y
  | next => exact let ⟨_, _, J, y⟩ := z; out (v := V.non) (u := Value.none) J rfl y
  | brk => exact let ⟨_, _, _, y⟩ := z; y.elim
  | cont => exact let ⟨_, _, _, y⟩ := z; y.elim
end
section
variable {X : Cx} {k : Nat} {f : Addr} {fd : FuncData} {ps : List Str} {sp : Sp} {E : XK} {x : Str} {p pos : Pos} {e : Expr} {es : List Expr} {t : TA}
theorem run_g {pins : List (Addr × Obj)} {σ : L2.St} {H : Hp} {s : Shared} {Q : VK} {us : List Value} {vs : List V} (F : FnG X.prog X.w X.K X.mg X.base k f fd ps sp) (q : RoomG k X.A) (b : Binds X.K fd ps []) (hx : Passes CX0 X E)
    (I : Inv X pins σ H s) (r : Vals vs us) (h : sp vs H Q E) : wpAny (model X.prog X.w) X.A (call (.ref f) us) (EP X pins σ Q) X.xe s := by
  have hl : (us ++ []).length = ps.length := by rw [List.append_nil, ← r.length]; exact F.len _ _ _ _ h
  have bt := b s us I.kIn hl
  rw [List.append_nil] at bt
  refine wpAny_call (codeAny_mono (F.run X.A X.stack s H ⟨us, []⟩ us vs Q E q I.env0 bt r h) fun r s' z => ?_)
  match r, z with
  | .error e, z => exact hx pins σ H s e s' I z
  | .ok (.ret u), z => exact I.after z
  | .ok .next, z => exact False.elim z
  | .ok .brk, z => exact False.elim z
  | .ok .cont, z => exact False.elim z
def tCallG (sp : Sp) (E : XK) (t : TA) : TE := fun σ H Q => t σ H fun vs H1 => sp vs H1 Q E
theorem pe_callG (F : FnG X.prog X.w X.K X.mg X.base k f fd ps sp) (q : RoomG k X.A) (hg : Gl X x) (hm : X.mg x = some (.ref f)) (hk : PySem.W.keepIn X.K (.ref f) = true) (hb : Binds X.K fd ps []) (hx : Passes CX0 X E)
    (ha : PA X (e :: es) t) (hdb : (x == ("__debug__" : Str)) = false := by decide) (he : starEach (e :: es) X.env = (false, eval e X.env) :: starEach es X.env := by rfl) (hpl : (backTo pos (starEach es X.env)).any (·.1) = false := by rfl) :
    PE X (.Call (.Name x p) (e :: es) [] pos) (tCallG sp E t) := ⟨fun pins s σ H Q I h =>
  wpAny_Call_Name_kw (ld_glob I hg hm (PySem.W.callWith_K (h₀ := X.base) I.ok.mod.kin hk (thn (ha.run pos pins s σ H _ I h) fun us s1 ⟨vs, H1, I1, r, z⟩ => ⟨I1.kIn, run_g F q hb hx I1 r z⟩) he hpl) hdb)⟩
theorem pe_callG0 (F : FnG X.prog X.w X.K X.mg X.base k f fd ps sp) (q : RoomG k X.A) (hg : Gl X x) (hm : X.mg x = some (.ref f)) (hk : PySem.W.keepIn X.K (.ref f) = true) (hb : Binds X.K fd ps []) (hx : Passes CX0 X E)
    (hdb : (x == ("__debug__" : Str)) = false := by decide) : PE X (.Call (.Name x p) [] [] pos) (tCallG sp E tNil) := ⟨fun pins s σ H Q I h =>
  wpAny_Call_Name_kw (ld_glob I hg hm (PySem.W.callWith_K0 I.kIn hk (run_g (us := []) F q hb hx I .nil h)) hdb)⟩
end
/-- the law's own call -/
theorem law_callG {P : Program} {w : World} {K : PySem.W.Frag} {mg mb : Str → Option Value} {k : Nat} {fa a : Addr} {fd : FuncData} {x : Str} {sp : Sp} {s : Shared} {vs : List Value} {ns : List Int}
    (KX : K.In s.heap) (hns : s.heap.Ns mainGlobals mg) (hb : s.heap.Ns builtinsNs mb) (hbb : ∀ x : Str, x ≠ "__name__" → mb x = bootBuiltins x) (lim : s.heap.NoLimit) (hg : s.gens = #[])
    (ha : s.heap.get? a = some { cls := .type "list", data := .seq vs.toArray }) (hi : IntsAre vs ns) (hl : ns.length ≤ sizeLine) (hr : RoomG k callerA)
    (F : ∀ base : Heap, K.In base → base.Ns mainGlobals mg → FnG P w K mg base k fa fd [x] sp) (bt : ∀ (s : Shared) (u : Value), BindsTo s fd ⟨[u], []⟩ [(x, u)])
    (hsp : ∀ H : Hp, Only H → SqL K H a (ns.map V.int) → sp [.ref a] H (fun v _ => v = .bl true) fun _ _ _ => False) :
    codeAny (model P w) callerA (.call (.ref fa) ⟨[.ref a], []⟩) (fun r s' => r = .ok (.ret (.bool true)) ∧ OldK s.heap s'.heap ∧ s'.os = s.os ∧ AllBare s'.gens) s := by
  have rv := vals_ints hi
  have core : ∀ H : Hp, Only H → SqL K H a (ns.map V.int) → HOk P w H s.heap → (∀ b, H b ≠ none → b = a) → (H a ≠ none → K.lookup a = none) → codeAny (model P w) callerA (.call (.ref fa) ⟨[.ref a], []⟩) (fun r s' => r = .ok (.ret (.bool true)) ∧ OldK s.heap s'.heap ∧ s'.os = s.os ∧ AllBare s'.gens) s := fun H only sq ok at_ free => by
    have dictFree : ∀ {b : Addr} {o : Obj} {es : Array DictEntry} {ep : Nat}, s.heap.get? b = some o → o.data = .dict es ep → H b = none := fun {b o es ep} e d => Classical.byContradiction fun n => by
      cases at_ b n
      rw [ha] at e; cases e
      exact nomatch (show Data.seq vs.toArray _ = Data.dict es ep from d)
    have keepNs : ∀ {b : Addr} {m : Str → Option Value}, s.heap.Ns b m → (hidT s.heap H).Ns b m := fun {b m} ⟨o, es, ep, e, d, r⟩ => ⟨o, es, ep, hidT_get e (dictFree e d), d, r⟩
    have KB : K.In (hidT s.heap H) := fun b o e => hidT_get (KX b o e) (Classical.byContradiction fun n => by
      cases at_ b n
      rw [free n] at e; cases e)
    have e0 : Env0 P w K mg (hidT s.heap H) callerA [] s H := ⟨rfl, ⟨KB, keepNs hns, ⟨mb, keepNs hb, hbb⟩, let ⟨mc, z1, z2⟩ := lim; ⟨mc, keepNs z1, z2⟩⟩, fun b o e => of_hidT e, Nat.le_of_eq (hidT_size _ _), trivial, fun b z => absurd (show b ∈ ([] : List Addr) from z) (by simp), ok, .of_eq hg⟩
    refine codeAny_mono ((F _ KB (keepNs hns)).run callerA [] s H ⟨[.ref a], []⟩ [.ref a] [.ref a] _ _ hr e0 (bt s (.ref a)) (.cons rfl .nil) (hsp H only sq)) fun r s' z => ?_
    match r, z with
    | .error e, z => exact (show False from z).elim
    | .ok .next, z => exact False.elim z
    | .ok .brk, z => exact False.elim z
    | .ok .cont, z => exact False.elim z
    | .ok (.ret u), z =>
      obtain ⟨v, H', os, bare, un, ok', r', q⟩ := z
      cases (show v = .bl true from q)
      cases (show u = Value.bool true from r')
      refine ⟨rfl, OldK.of_keep fun b o e => ?_, os, bare⟩
      cases q : H b with
      | none => exact un.keep b o e q (fun z => absurd (show b ∈ ([] : List Addr) from z) (by simp)) (by simp)
      | some u =>
        rcases only b with z | ⟨ob, xs, z⟩
        · rw [q] at z; cases z
        · obtain ⟨e1, _⟩ := ok b _ z
          obtain ⟨e2, _⟩ := ok' b _ (un.frzs b ob _ z)
          rw [e] at e1; cases e1
          exact e2
  have size : vs.toArray.size ≤ sizeLine := by rw [List.size_toArray, hi.length]; exact hl
  cases hk : K.lookup a with
  | some o =>
    have e := KX a o hk
    rw [ha] at e; cases e
    exact core (fun _ => none) (fun _ => .inl rfl) (.inr ⟨_, vs.toArray, _, hk, rfl, rfl, rfl, size, by simpa using rv⟩) (fun _ _ z => nomatch z) (fun _ z => absurd rfl z) fun z => absurd rfl z
  | none =>
    have other : ∀ {b : Addr} {o : HO}, (fun c => if c = a then some o else (none : Option HO)) b ≠ none → b = a := fun {b o} z => Classical.byContradiction fun n => z (if_neg n)
    refine core (fun b => if b = a then some (.frz { cls := .type "list", data := .seq vs.toArray } (.lst (ns.map V.int))) else none) (fun b => ?_) (.inl (.inr ⟨_, if_pos rfl⟩)) (fun b u z => ?_) (fun _ z => other z) fun _ => hk
    · by_cases n : b = a
      · exact .inr ⟨_, _, if_pos n⟩
      · exact .inl (if_neg n)
    · cases other (b := b) (fun n => by rw [z] at n; cases n)
      cases (if_pos rfl).symm.trans z
      exact ⟨ha, by rw [List.length_map]; exact hl, vs, _, rv, ha⟩
theorem walk_ofG {l : PySem.W.OpenLaw} {n k : Nat} {q : Program} {loose : List Str} {XP : (Str → Option Value) → Heap → Prop} {YP : World → Heap → Prop} {d : DefRec} {K : Params → PySem.W.Frag} {sp : PySem.W.Frag → Sp} {x : Str}
    (hn : l.most = some n) (hn2 : n ≤ sizeLine) (hdf : d.params.defaults = []) (hr : RoomG k callerA) (hY : ∀ (w : World) (h : Heap), YP w h → (K w.params).In h)
    (F : ∀ (w : World) (mg : Str → Option Value) (fa : Addr) (h : Heap), (K w.params).In h → h.Ns mainGlobals mg → mg d.name = some (.ref fa) →
      ∃ fd : FuncData, (∀ (s : Shared) (u : Value), BindsTo s fd ⟨[u], []⟩ [(x, u)]) ∧ ∀ base : Heap, (K w.params).In base → base.Ns mainGlobals mg → FnG l.prog w (K w.params) mg base k fa fd [x] (sp (K w.params)))
    (hsp : ∀ (K : PySem.W.Frag) (H : Hp) (a : Addr) (ns : List Int), ns.length ≤ n → Only H → SqL K H a (ns.map V.int) → sp K [.ref a] H (fun v _ => v = .bl true) fun _ _ _ => False) :
    PySem.W.WalkO q loose XP YP l.row.toRowW d [] (fun f vs => PySem.call f vs) := Att.attach_call hn hdf fun w s₀ s₁ mg mb fa o pm cd doc a vs ns G Y ho hd hcd hmg hobj hints hlen hg =>
  let ⟨fd, hb, hF⟩ := F w mg fa _ (hY w _ Y) G.T.g hmg
  law_callG (hY w _ Y) G.T.g G.T.b G.T.builtins G.T.nolimit hg hobj hints (Nat.le_trans hlen hn2) hr hF hb fun H only sq => hsp _ H a ns hlen only sq
end DL
namespace DL
open PySem PySem.Spec PyProof.Rows L2
section
variable {X : Cx}
/-! ### arguments, displays -/
def dNil : A1 := fun _ h Q => Q [] h
def dCons (t : E1) (r : A1) : A1 := fun σ h Q => t σ h fun x h1 => r σ h1 fun xs h2 => Q (x :: xs) h2
theorem da_nil : DA X [] dNil := weakA pa_nil fun σV H QV ⟨σ, h, Q, hE, hH, ht, hc⟩ => hc [] h [] H Stp.refl hH rfl ht
theorem da_cons {e : Expr} {es : List Expr} {t : E1} {r : A1} (a : DE X e t) (b : DA X es r) (hs : starEach (e :: es) X.env = (false, eval e X.env) :: starEach es X.env := by rfl) : DA X (e :: es) (dCons t r) :=
  weakA (pa_cons a b hs) fun σV H QV ⟨σ, h, Q, hE, hH, ht, hc⟩ => by
    refine ⟨σ, h, _, hE, hH, ht, fun x h1 v H1 s1 hH1 r1 q1 => ?_⟩
    refine ⟨σ, h1, _, hE.mono (Stp.mo hH s1), hH1, q1, fun xs h2 vs H2 s2 hH2 r2 q2 => ?_⟩
    exact hc (x :: xs) h2 _ H2 (s1.trans s2) hH2 (RepVs.cons (RepV.mono (Stp.mo hH1 s2) _ r1) r2) q2
def dTup (t : A1) : E1 := fun σ h Q => t σ h fun ds h1 => ds.length ≤ sizeLine ∧ Q (.tup ds) h1
def dLst (t : A1) : E1 := fun σ h Q => t σ h fun ds h1 => ds.length ≤ sizeLine ∧ ∀ p, h1 p = none → Q (.ref p) (up h1 p (.lst ds))
theorem de_tup {es : List Expr} {t : A1} {k : Nat} {pos : Pos} (a : DA X es t) : DE X (.Tuple es k pos) (dTup t) := weakE (pe_tup a) fun σV H QV ⟨σ, h, Q, hE, hH, ht, hc⟩ =>
  ⟨σ, h, _, hE, hH, ht, fun ds h1 vs H1 s1 hH1 r1 q => ⟨by rw [← r1.length]; exact q.1, fun p n => (hc.step s1).tup hH1 n r1 q.2⟩⟩
theorem de_lst {es : List Expr} {t : A1} {pos : Pos} (a : DA X es t) : DE X (.List es pos) (dLst t) := weakE (pe_lst a) fun σV H QV ⟨σ, h, Q, hE, hH, ht, hc⟩ =>
  ⟨σ, h, _, hE, hH, ht, fun ds h1 vs H1 s1 hH1 r1 q => ⟨by rw [← r1.length]; exact q.1, fun p n => (hc.step s1).new hH1 n r1 (q.2 p (hH1.nofresh n))⟩⟩
/-! ### calls of built-ins -/
abbrev C1 := List D → MH → KD → Prop
def lowC (K : KW) (r : C1) : List V → Hp → VK → Prop := fun vs H QV => ∃ ds h Q, RepVs K H ds vs ∧ RepH K h H ∧ r ds h Q ∧ Cl K h H Q QV
def dCall (r : C1) (t : A1) : E1 := fun σ h Q => t σ h fun ds h1 => r ds h1 Q
theorem low_call {K : KW} {r : C1} {t : A1} {σV : L2.St} {H : Hp} {QV : VK} (q : lowE K (dCall r t) σV H QV) : tCB (lowC K r) (lowA K t) σV H QV := by
  obtain ⟨σ, h, Q, hE, hH, ht, hc⟩ := q
  exact ⟨σ, h, _, hE, hH, ht, fun ds h1 vs H1 s1 hH1 r1 q => ⟨ds, h1, Q, r1, hH1, q, hc.step s1⟩⟩
theorem callR_of {f : Value} {r' : List V → Hp → VK → Prop} (h : ∀ xs H Q, r' xs H Q → ∃ r, CallR X f r ∧ r xs H Q) : CallR X f r' := fun pins s σ H xs us Q I rx hr =>
  let ⟨r, ho, hq⟩ := h xs H Q hr
  ho pins s σ H xs us Q I rx hq
theorem de_callB {id : String} {r : C1} {x : Str} {e : Expr} {es : List Expr} {t : A1} {p pos : Pos} (hc : CallR X (.builtin id) (lowC X.kw r)) (hg : Gl X x) (hm : X.mg x = none) (hv : bootBuiltins x = some (.builtin id)) (ha : DA X (e :: es) t) (hn : x ≠ "__name__" := by decide) (hdb : (x == ("__debug__" : Str)) = false := by decide)
    (he : starEach (e :: es) X.env = (false, eval e X.env) :: starEach es X.env := by rfl) (hpl : (backTo pos (starEach es X.env)).any (·.1) = false := by rfl) : DE X (.Call (.Name x p) (e :: es) [] pos) (dCall r t) :=
  weakE (pe_callB hc hg hm hv ha hn hdb he hpl) fun _ _ _ q => low_call q
theorem de_callTy {T : String} {r : C1} {x : Str} {e : Expr} {es : List Expr} {t : A1} {p pos : Pos} (hc : CallR X (.type T) (lowC X.kw r)) (hg : Gl X x) (hm : X.mg x = none) (hv : bootBuiltins x = some (.type T)) (ha : DA X (e :: es) t) (hn : x ≠ "__name__" := by decide) (hdb : (x == ("__debug__" : Str)) = false := by decide)
    (he : starEach (e :: es) X.env = (false, eval e X.env) :: starEach es X.env := by rfl) (hpl : (backTo pos (starEach es X.env)).any (·.1) = false := by rfl) : DE X (.Call (.Name x p) (e :: es) [] pos) (dCall r t) :=
  weakE (pe_callTy hc hg hm hv ha hn hdb he hpl) fun _ _ _ q => low_call q
theorem de_ty {T : String} {x : Str} {pos : Pos} (hg : Gl X x) (hm : X.mg x = none) (hv : bootBuiltins x = some (.type T)) (hn : x ≠ "__name__" := by decide) (hd : (x == ("__debug__" : Str)) = false := by decide) : DE X (.Name x pos) (dC (.ty T)) :=
  de_c (pe_bltn (v := .ty T) hg hm hv rfl hn hd) fun _ => rfl
theorem rep1 {K : KW} {H : Hp} {d : D} {vs : List V} (r : RepVs K H [d] vs) : ∃ v, vs = [v] ∧ RepV K H d v := by
  obtain ⟨v, u, rfl, a, b⟩ := r
  cases (show u = [] from b)
  exact ⟨v, rfl, a⟩
theorem rep2 {K : KW} {H : Hp} {d e : D} {vs : List V} (r : RepVs K H [d, e] vs) : ∃ v u, vs = [v, u] ∧ RepV K H d v ∧ RepV K H e u := by
  obtain ⟨v, u, rfl, a, b⟩ := r
  obtain ⟨w, rfl, c⟩ := rep1 b
  exact ⟨v, w, rfl, a, c⟩
def on1 (r : D → MH → KD → Prop) : C1 := fun ds h Q => match ds with
  | [d] => r d h Q
  | _ => False
def on2 (r : R1) : C1 := fun ds h Q => match ds with
  | [d, e] => r d e h Q
  | _ => False
theorem on1_inv {r : D → MH → KD → Prop} {ds : List D} {h : MH} {Q : KD} (q : on1 r ds h Q) : ∃ d, ds = [d] ∧ r d h Q := by
  unfold on1 at q
  split at q
  · exact ⟨_, rfl, q⟩
  · exact q.elim
theorem on2_inv {r : R1} {ds : List D} {h : MH} {Q : KD} (q : on2 r ds h Q) : ∃ d e, ds = [d, e] ∧ r d e h Q := by
  unfold on2 at q
  split at q
  · exact ⟨_, _, rfl, q⟩
  · exact q.elim
theorem callR_1 {f : Value} {r : D → MH → KD → Prop} (h : ∀ (x : V) (d : D) (h : MH) (H : Hp) (Q : KD) (QV : VK), RepV X.kw H d x → RepH X.kw h H → r d h Q → Cl X.kw h H Q QV → ∃ r, CallR X f r ∧ r [x] H QV) : CallR X f (lowC X.kw (on1 r)) :=
  callR_of fun xs H QV ⟨ds, m, Q, rv, hH, hr, hc⟩ => by
    obtain ⟨d, rfl, q⟩ := on1_inv hr
    obtain ⟨x, rfl, rx⟩ := rep1 rv
    exact h x d m H Q QV rx hH q hc
theorem callR_2 {f : Value} {r : R1} (h : ∀ (x y : V) (d e : D) (h : MH) (H : Hp) (Q : KD) (QV : VK), RepV X.kw H d x → RepV X.kw H e y → RepH X.kw h H → r d e h Q → Cl X.kw h H Q QV → ∃ r, CallR X f r ∧ r [x, y] H QV) : CallR X f (lowC X.kw (on2 r)) :=
  callR_of fun xs H QV ⟨ds, m, Q, rv, hH, hr, hc⟩ => by
    obtain ⟨d, e, rfl, q⟩ := on2_inv hr
    obtain ⟨x, y, rfl, rx, ry⟩ := rep2 rv
    exact h x y d e m H Q QV rx ry hH q hc
def seqK (k : List D → Prop) : Option (List D) → Prop
  | some ds => k ds
  | none => False
/-- len -/
def lenO (h : MH) (Q : KD) : Option MO → Prop
  | some (.lst ds) => Q (.int ds.length) h
  | some (.dic kvs) => Q (.int kvs.length) h
  | _ => False
def lenD (x : D) (h : MH) (Q : KD) : Prop := match x with
  | .str z => Q (.int z.length) h
  | .tup ds => Q (.int ds.length) h
  | .rol ds => Q (.int ds.length) h
  | .ref a => lenO h Q (h a)
  | _ => False
def rLenN (X : Cx) : List V → Hp → VK → Prop := fun vs H Q => ∃ a kvs, vs = [.ref a] ∧ RepO X.kw H a (.dic kvs) ∧ Q (.int kvs.length) H
theorem call_lenN : CallR X (.builtin "len") (rLenN X) := by
  intro pins s σ H xs us Q I rx ⟨a, kvs, ex, ro, q⟩
  rcases id ro with ⟨kv, e, r⟩ | ⟨xs', r⟩
  · exact call_lenD pins s σ H xs us Q I rx ⟨a, kv, ex, e, by rw [← r.length]; exact q⟩
  · subst ex
    cases rx with
    | cons r1 r2 =>
      cases r2
      cases r1
      have low := r.low
      have D : NDict X H a xs' := ⟨r.at_, r.low, by rw [← r.rep.length]; exact r.len, r.rep.keys r.tup, r.nd⟩
      have hl := r.len
      rw [sizeLine_eq] at hl
      have el : xs'.length = kvs.length := r.rep.length.symm
      obtain ⟨ys, dh, p⟩ := D.heap I
      have ey : (pairsH ys).length = kvs.length := by rw [pairsH_length, ← p.length]; exact el
      refine PyProof.Rows.call_len_slot (n := kvs.length) (dic_type I ro) PySem.F.slot_dict_len (fun Q' hq => len_keyed (knd := nkd X) low ⟨ys, dh, rfl⟩ (by rw [ey]; exact hq)) (by omega) (by omega) ?_
      exact ⟨.int _, H, I.tok _, ⟨_, rfl⟩, q⟩
theorem xd_len : CallR X (.builtin "len") (lowC X.kw (on1 lenD)) := callR_1 fun x d h H Q QV rx hH hr hc => by
  have sq : ∀ {a : Addr} {vs : List V} {ds : List D}, x = .ref a → (SqL X.K H a vs ∨ SqT X.K H a vs) → RepVs X.kw H ds vs → Q (.int ds.length) h → ∃ r, CallR X (.builtin "len") r ∧ r [x] H QV := by
    rintro a vs ds rfl hs rv hr
    refine ⟨_, call_len_seq, a, vs, rfl, hs, ?_⟩
    rw [← rv.length]
    exact hc.int hH hr
  cases d with
  | str z =>
    obtain ⟨rfl, ok⟩ := rx
    exact ⟨_, call_len_str, z, rfl, ok.1, hc.int hH hr⟩
  | tup ds => obtain ⟨a, vs, ex, st, rs⟩ := rx; exact sq ex (.inr st) rs hr
  | rol ds => obtain ⟨a, vs, ex, st, rs⟩ := rx; exact sq ex (.inl st.sq) rs hr
  | ref a =>
    have ex : x = .ref a := rx
    have hr : lenO h Q (h a) := hr
    cases q : h a with
    | none => rw [q] at hr; exact hr.elim
    | some o =>
      rw [q] at hr
      cases o with
      | lst ds =>
        obtain ⟨vs, eH, rs⟩ := hH a _ q
        exact sq ex (.inl (SqL.of eH)) rs hr
      | dic kvs =>
        subst ex
        exact ⟨_, call_lenN, a, kvs, rfl, hH a _ q, hc.int hH hr⟩
      | ins _ _ => exact hr.elim
  | _ => exact hr.elim
/-- tuple(xs) -/
def tupleD (x : D) (h : MH) (Q : KD) : Prop := seqK (fun ds => Q (.tup ds) h) (seqOf h x)
theorem xd_tuple : CallR X (.type "tuple") (lowC X.kw (on1 tupleD)) := callR_1 fun x d h H Q QV rx hH hr hc => by
  unfold tupleD at hr
  cases q : seqOf h d with
  | none => rw [q] at hr; exact hr.elim
  | some ds =>
    rw [q] at hr
    obtain ⟨a, vs, rfl, rv, hs⟩ := seq_rep hH rx q
    refine ⟨_, call_tuple_of, a, vs, rfl, ?_⟩
    rcases hs with hs | hs
    · exact .inl ⟨hs, fun l n => hc.tup hH n rv hr⟩
    · exact .inr ⟨hs, hc.val hH (d := .tup ds) ⟨a, vs, rfl, hs, rv⟩ hr⟩
/-- list(xs) -/
def listD (x : D) (h : MH) (Q : KD) : Prop := seqK (fun ds => ∀ p, h p = none → Q (.ref p) (up h p (.lst ds))) (seqOf h x)
theorem xd_list : CallR X (.type "list") (lowC X.kw (on1 listD)) := callR_1 fun x d h H Q QV rx hH hr hc => by
  unfold listD at hr
  cases q : seqOf h d with
  | none => rw [q] at hr; exact hr.elim
  | some ds =>
    rw [q] at hr
    obtain ⟨a, vs, rfl, rv, hs⟩ := seq_rep hH rx q
    exact ⟨_, call_list_of, a, vs, rfl, hs, fun l n => hc.new hH n rv (hr l (hH.nofresh n))⟩
/-- abs, int -/
def absD (x : D) (h : MH) (Q : KD) : Prop := match x with
  | .int i => Q (.int (if i < 0 then -i else i)) h
  | _ => False
theorem xd_abs : CallR X (.builtin "abs") (lowC X.kw (on1 absD)) := callR_1 fun x d h H Q QV rx hH hr hc => by
  cases d <;> try exact hr.elim
  case int i =>
    cases (show x = _ from rx)
    exact ⟨_, call_abs, i, rfl, hc.int hH hr⟩
def intD (x : D) (h : MH) (Q : KD) : Prop := match x with
  | .int i => Q (.int i) h
  | .bool b => Q (.int (if b = true then 1 else 0)) h
  | _ => False
theorem xd_int : CallR X (.type "int") (lowC X.kw (on1 intD)) := callR_1 fun x d h H Q QV rx hH hr hc => by
  cases d <;> try exact hr.elim
  case int i =>
    cases (show x = _ from rx)
    exact ⟨_, call_int1, .inl ⟨i, rfl, hc.int hH hr⟩⟩
  case bool b =>
    cases (show x = _ from rx)
    exact ⟨_, call_int1, .inr ⟨b, rfl, hc.int hH hr⟩⟩
/-- isinstance -/
def tyS (o : Option MO) : Option String := match o with
  | some (.lst _) => some "list"
  | _ => none
def tyN (h : MH) : D → Option String
  | .none => some "NoneType"
  | .bool _ => some "bool"
  | .int _ => some "int"
  | .str _ => some "str"
  | .tup _ => some "tuple"
  | .rol _ => some "list"
  | .ref a => tyS (h a)
  | .ty _ => none
def kitK (k : Bool → Prop) : Option Bool → Prop
  | some b => k b
  | none => False
def isiK (n : String) (k : Bool → Prop) : Option String → Prop
  | some t => kitK k (kitB t n)
  | none => False
def isiD : R1 := fun x y h Q => match y with
  | .ty n => isiK n (fun b => Q (.bool b) h) (tyN h x)
  | _ => False
theorem ty_rep {h : MH} {H : Hp} (hH : RepH X.kw h H) : ∀ {d : D} {v : V} {t : String}, RepV X.kw H d v → tyN h d = some t → TyX X.K H v (.type t)
  | .none, _, _, r, e => by cases e; cases (show _ = _ from r); exact .base .non
  | .bool b, _, _, r, e => by cases e; cases (show _ = _ from r); exact .base (.bl b)
  | .int i, _, _, r, e => by cases e; cases (show _ = _ from r); exact .base (.int i)
  | .str z, _, _, r, e => by cases e; obtain ⟨rfl, _⟩ := r; exact .base (.str z)
  | .tup ds, _, _, r, e => by
    cases e
    obtain ⟨a, vs, rfl, s, _⟩ := r
    rcases s with (s | ⟨o, s⟩) | ⟨o, its, n, s, c, _⟩
    · exact .base (.tup s)
    · exact .fTuple s
    · exact .kTuple s c
  | .rol ds, _, _, r, e => by
    cases e
    obtain ⟨a, vs, rfl, s, _⟩ := r
    rcases s with ⟨o, s⟩ | ⟨o, its, n, s, c, _⟩
    · exact .base (.frz s)
    · exact .kList s c
  | .ref a, _, t, r, e => by
    cases (show _ = V.ref a from r)
    have e : tyS (h a) = some t := e
    cases q : h a with
    | none => rw [q] at e; cases e
    | some o =>
      cases o with
      | lst ds =>
        rw [q] at e; cases e
        obtain ⟨vs, eH, _⟩ := hH a _ q
        exact .base (.lst eH)
      | dic _ => rw [q] at e; cases e
      | ins _ _ => rw [q] at e; cases e
  | .ty _, _, _, _, e => by cases e
theorem xd_isi : CallR X (.builtin "isinstance") (lowC X.kw (on2 isiD)) := callR_2 fun x y d e h H Q QV rx ry hH hr hc => by
  cases e <;> try exact hr.elim
  case ty n =>
    cases (show y = _ from ry)
    have hr : isiK n (fun b => Q (.bool b) h) (tyN h d) := hr
    cases q : tyN h d with
    | none => rw [q] at hr; exact hr.elim
    | some t =>
      rw [q] at hr
      have hr : kitK (fun b => Q (.bool b) h) (kitB t n) := hr
      cases q2 : kitB t n with
      | none => rw [q2] at hr; exact hr.elim
      | some b =>
        rw [q2] at hr
        exact ⟨_, call_isi, x, .ty n, .type t, .type n, b, rfl, .ty n, ty_rep hH rx q, kit_ty q2, hc.bl hH hr⟩
/-- all, any, sum -/
def blsOf : List D → Option (List Bool)
  | [] => some []
  | .bool b :: r => (blsOf r).map (b :: ·)
  | _ :: _ => none
def intsOf : List D → Option (List Int)
  | [] => some []
  | .int b :: r => (intsOf r).map (b :: ·)
  | _ :: _ => none
def strsOf : List D → Option (List Str)
  | [] => some []
  | .str b :: r => (strsOf r).map (b :: ·)
  | _ :: _ => none
theorem blsOf_rep {K : KW} {H : Hp} : ∀ {ds : List D} {vs : List V} {bs : List Bool}, RepVs K H ds vs → blsOf ds = some bs → vs = bs.map V.bl
  | [], _, _, r, e => by cases e; exact r
  | .bool b :: ds, _, bs, r, e => by
    obtain ⟨v, u, rfl, h1, h2⟩ := r
    unfold blsOf at e
    cases q : blsOf ds with
    | none => rw [q] at e; cases e
    | some cs => rw [q] at e; cases e; rw [blsOf_rep h2 q]; cases (show v = _ from h1); rfl
  | .none :: _, _, _, _, e => by cases e
  | .int _ :: _, _, _, _, e => by cases e
  | .str _ :: _, _, _, _, e => by cases e
  | .tup _ :: _, _, _, _, e => by cases e
  | .rol _ :: _, _, _, _, e => by cases e
  | .ref _ :: _, _, _, _, e => by cases e
  | .ty _ :: _, _, _, _, e => by cases e
theorem intsOf_rep {K : KW} {H : Hp} : ∀ {ds : List D} {vs : List V} {bs : List Int}, RepVs K H ds vs → intsOf ds = some bs → vs = bs.map V.int
  | [], _, _, r, e => by cases e; exact r
  | .int b :: ds, _, bs, r, e => by
    obtain ⟨v, u, rfl, h1, h2⟩ := r
    unfold intsOf at e
    cases q : intsOf ds with
    | none => rw [q] at e; cases e
    | some cs => rw [q] at e; cases e; rw [intsOf_rep h2 q]; cases (show v = _ from h1); rfl
  | .none :: _, _, _, _, e => by cases e
  | .bool _ :: _, _, _, _, e => by cases e
  | .str _ :: _, _, _, _, e => by cases e
  | .tup _ :: _, _, _, _, e => by cases e
  | .rol _ :: _, _, _, _, e => by cases e
  | .ref _ :: _, _, _, _, e => by cases e
  | .ty _ :: _, _, _, _, e => by cases e
theorem strsOf_rep {K : KW} {H : Hp} : ∀ {ds : List D} {vs : List V} {bs : List Str}, RepVs K H ds vs → strsOf ds = some bs → vs = bs.map V.str ∧ ∀ z ∈ bs, okS z
  | [], _, _, r, e => by cases e; exact ⟨r, fun _ z => by cases z⟩
  | .str b :: ds, _, bs, r, e => by
    obtain ⟨v, u, rfl, h1, h2⟩ := r
    unfold strsOf at e
    cases q : strsOf ds with
    | none => rw [q] at e; cases e
    | some cs =>
      rw [q] at e; cases e
      obtain ⟨a, b'⟩ := strsOf_rep h2 q
      obtain ⟨rfl, ok⟩ := h1
      exact ⟨by rw [a]; rfl, fun z hz => (List.mem_cons.mp hz).elim (fun e => e ▸ ok) (b' z)⟩
  | .none :: _, _, _, _, e => by cases e
  | .bool _ :: _, _, _, _, e => by cases e
  | .int _ :: _, _, _, _, e => by cases e
  | .tup _ :: _, _, _, _, e => by cases e
  | .rol _ :: _, _, _, _, e => by cases e
  | .ref _ :: _, _, _, _, e => by cases e
  | .ty _ :: _, _, _, _, e => by cases e
theorem blsOf_map (bs : List Bool) : blsOf (bs.map D.bool) = some bs := by
  induction bs with
  | nil => rfl
  | cons b r ih => show (blsOf (r.map D.bool)).map (b :: ·) = _; rw [ih]; rfl
theorem intsOf_map (bs : List Int) : intsOf (bs.map D.int) = some bs := by
  induction bs with
  | nil => rfl
  | cons b r ih => show (intsOf (r.map D.int)).map (b :: ·) = _; rw [ih]; rfl
theorem strsOf_map (bs : List Str) : strsOf (bs.map D.str) = some bs := by
  induction bs with
  | nil => rfl
  | cons b r ih => show (strsOf (r.map D.str)).map (b :: ·) = _; rw [ih]; rfl
def blsK (k : List Bool → Prop) (h : MH) : D → Prop
  | .ref a => seqK (fun ds => ∃ bs, blsOf ds = some bs ∧ k bs) (seqO (h a))
  | .rol ds => ∃ bs, blsOf ds = some bs ∧ k bs
  | _ => False
def allD (x : D) (h : MH) (Q : KD) : Prop := blsK (fun bs => Q (.bool (bs.all id)) h) h x
def anyD (x : D) (h : MH) (Q : KD) : Prop := blsK (fun bs => Q (.bool (bs.any id)) h) h x
theorem blsK_rep {k : List Bool → Prop} {h : MH} {H : Hp} (hH : RepH X.kw h H) {d : D} {v : V} (r : RepV X.kw H d v) (q : blsK k h d) : ∃ a bs, v = .ref a ∧ SqL X.K H a (bs.map V.bl) ∧ k bs := by
  cases d <;> try exact q.elim
  case ref a =>
    cases (show v = _ from r)
    have q : seqK (fun ds => ∃ bs, blsOf ds = some bs ∧ k bs) (seqO (h a)) := q
    cases e : h a with
    | none => rw [e] at q; exact q.elim
    | some o =>
      cases o with
      | lst ds =>
        rw [e] at q
        obtain ⟨bs, e1, kb⟩ := q
        obtain ⟨vs, eH, rv⟩ := hH a _ e
        have := blsOf_rep rv e1
        subst this
        exact ⟨a, bs, rfl, SqL.of eH, kb⟩
      | dic _ => rw [e] at q; exact q.elim
      | ins _ _ => rw [e] at q; exact q.elim
  case rol ds =>
    obtain ⟨a, vs, rfl, s, rv⟩ := r
    obtain ⟨bs, e1, kb⟩ := q
    have := blsOf_rep rv e1
    subst this
    exact ⟨a, bs, rfl, s.sq, kb⟩
theorem xd_all (hc : X.calm = true) : CallR X (.builtin "all") (lowC X.kw (on1 allD)) := callR_1 fun x d h H Q QV rx hH hr hcl => by
  obtain ⟨a, bs, rfl, s, q⟩ := blsK_rep hH rx hr
  exact ⟨_, cr_all hc, a, bs, rfl, s, hcl.bl hH q⟩
theorem xd_any (hc : X.calm = true) : CallR X (.builtin "any") (lowC X.kw (on1 anyD)) := callR_1 fun x d h H Q QV rx hH hr hcl => by
  obtain ⟨a, bs, rfl, s, q⟩ := blsK_rep hH rx hr
  exact ⟨_, cr_any hc, a, bs, rfl, s, hcl.bl hH q⟩
def intsK (k : List Int → Prop) (h : MH) : D → Prop
  | .ref a => seqK (fun ds => ∃ bs, intsOf ds = some bs ∧ k bs) (seqO (h a))
  | .rol ds => ∃ bs, intsOf ds = some bs ∧ k bs
  | _ => False
theorem intsK_rep {k : List Int → Prop} {h : MH} {H : Hp} (hH : RepH X.kw h H) {d : D} {v : V} (r : RepV X.kw H d v) (q : intsK k h d) : ∃ a bs, v = .ref a ∧ SqL X.K H a (bs.map V.int) ∧ k bs := by
  cases d <;> try exact q.elim
  case ref a =>
    cases (show v = _ from r)
    have q : seqK (fun ds => ∃ bs, intsOf ds = some bs ∧ k bs) (seqO (h a)) := q
    cases e : h a with
    | none => rw [e] at q; exact q.elim
    | some o =>
      cases o with
      | lst ds =>
        rw [e] at q
        obtain ⟨bs, e1, kb⟩ := q
        obtain ⟨vs, eH, rv⟩ := hH a _ e
        have := intsOf_rep rv e1
        subst this
        exact ⟨a, bs, rfl, SqL.of eH, kb⟩
      | dic _ => rw [e] at q; exact q.elim
      | ins _ _ => rw [e] at q; exact q.elim
  case rol ds =>
    obtain ⟨a, vs, rfl, s, rv⟩ := r
    obtain ⟨bs, e1, kb⟩ := q
    have := intsOf_rep rv e1
    subst this
    exact ⟨a, bs, rfl, s.sq, kb⟩
def sumD (x : D) (h : MH) (Q : KD) : Prop := intsK (fun bs => Q (.int bs.sum) h) h x
theorem xd_sum (hc : X.calm = true) : CallR X (.builtin "sum") (lowC X.kw (on1 sumD)) := callR_1 fun x d h H Q QV rx hH hr hcl => by
  obtain ⟨a, bs, rfl, s, q⟩ := intsK_rep hH rx hr
  exact ⟨_, cr_sum hc, a, bs, rfl, s, hcl.int hH q⟩
def max2D : R1 := fun x y h Q => match x, y with
  | .int i, .int j => Q (.int (if j > i then j else i)) h
  | _, _ => False
def min2D : R1 := fun x y h Q => match x, y with
  | .int i, .int j => Q (.int (if j < i then j else i)) h
  | _, _ => False
theorem xd_max2 (hc : X.calm = true) : CallR X (.builtin "max") (lowC X.kw (on2 max2D)) := callR_2 fun x y d e h H Q QV rx ry hH hr hcl => by
  cases d <;> cases e <;> try exact hr.elim
  case int.int i j =>
    cases (show x = _ from rx)
    cases (show y = _ from ry)
    exact ⟨_, call_max2 hc, i, j, rfl, hcl.int hH hr⟩
theorem xd_min2 (hc : X.calm = true) : CallR X (.builtin "min") (lowC X.kw (on2 min2D)) := callR_2 fun x y d e h H Q QV rx ry hH hr hcl => by
  cases d <;> cases e <;> try exact hr.elim
  case int.int i j =>
    cases (show x = _ from rx)
    cases (show y = _ from ry)
    exact ⟨_, call_min2 hc, i, j, rfl, hcl.int hH hr⟩
/-! ### methods of lists and texts -/
abbrev M1 := D → List D → MH → KD → Prop
def lowM (K : KW) (r : M1) : V → List V → Hp → VK → Prop := fun x vs H QV => ∃ d ds h Q, RepV K H d x ∧ RepVs K H ds vs ∧ RepH K h H ∧ r d ds h Q ∧ Cl K h H Q QV
theorem mtR_of {id : String} {r' : V → List V → Hp → VK → Prop} (h : ∀ x xs H Q, r' x xs H Q → ∃ r, MtR X id r ∧ r x xs H Q) : MtR X id r' := fun pins s σ H x xs v us Q I rx rs hr =>
  let ⟨r, ho, hq⟩ := h x xs H Q hr
  ho pins s σ H x xs v us Q I rx rs hq
def isLst (o : Option MO) : Prop := match o with
  | some (.lst _) => True
  | _ => False
def okL (x : D) (h : MH) : Prop := match x with
  | .ref a => isLst (h a)
  | _ => False
theorem okL_rep {h : MH} {H : Hp} (hH : RepH X.kw h H) {d : D} {v : V} (r : RepV X.kw H d v) (q : okL d h) : tyV X.K "list" v H := by
  cases d <;> try exact q.elim
  case ref a =>
    cases (show v = _ from r)
    have q : isLst (h a) := q
    cases e : h a with
    | none => rw [e] at q; exact q.elim
    | some o =>
      cases o with
      | lst ds =>
        obtain ⟨vs, eH, _⟩ := hH a _ e
        exact .inl ⟨rfl, vs, SqL.of eH⟩
      | dic _ => rw [e] at q; exact q.elim
      | ins _ _ => rw [e] at q; exact q.elim
def dBM0 (ok : D → MH → Prop) (r : M1) (to : E1) : E1 := fun σ h Q => to σ h fun x h1 => ok x h1 ∧ r x [] h1 Q
def dBM (ok : D → MH → Prop) (r : M1) (to : E1) (t : A1) : E1 := fun σ h Q => to σ h fun x h1 => ok x h1 ∧ t σ h1 fun ds h2 => r x ds h2 Q
theorem de_lm0 {o : Expr} {to : E1} {r : M1} {name : Str} {id : String} {apos cpos : Pos} (slot : Slot "list" name id) (hty : typeOf (.builtin id) = pure (.type "method_descriptor")) (hm : MtR X id (lowM X.kw r)) (ho : DE X o to)
    (hbase : attributeBase o name X.env (eval o X.env) = eval o X.env := by rfl) (hline : (apos.endLine == cpos.line) = true := by rfl) : DE X (.Call (.Attribute o name apos) [] [] cpos) (dBM0 okL r to) :=
  weakE (pe_bm0 PySem.F.plainAttrs_list slot hty hm ho hbase hline) fun σV H QV ⟨σ, h, Q, hE, hH, ht, hc⟩ => ⟨σ, h, _, hE, hH, ht, fun x h1 v H1 s1 hH1 r1 q => ⟨okL_rep hH1 r1 q.1, x, [], h1, Q, r1, rfl, hH1, q.2, hc.step s1⟩⟩
theorem de_lm {o e : Expr} {es : List Expr} {to : E1} {t : A1} {r : M1} {name : Str} {id : String} {apos cpos : Pos} (slot : Slot "list" name id) (hty : typeOf (.builtin id) = pure (.type "method_descriptor")) (hm : MtR X id (lowM X.kw r)) (ho : DE X o to) (ha : DA X (e :: es) t)
    (hbase : attributeBase o name X.env (eval o X.env) = eval o X.env := by rfl)
    (hfew : ((backTo cpos (starEach (e :: es) X.env)).all (fun x => !x.1) && (backToKw cpos (keywordEach [] X.env)).all (fun x => x.1.isSome)
      && decide ((e :: es).length + ([] : List Keyword).length + (if ([] : List Keyword).isEmpty then 0 else 1) < 30)) = true := by rfl)
    (hline : (apos.endLine == cpos.line) = true := by rfl) (hs : starEach (e :: es) X.env = (false, eval e X.env) :: starEach es X.env := by rfl) (hplain : (backTo cpos (starEach es X.env)).any (·.1) = false := by rfl) :
    DE X (.Call (.Attribute o name apos) (e :: es) [] cpos) (dBM okL r to t) :=
  weakE (pe_bm PySem.F.plainAttrs_list slot hty hm ho ha hbase hfew hline hs hplain) fun σV H QV ⟨σ, h, Q, hE, hH, ht, hc⟩ => ⟨σ, h, _, hE, hH, ht, fun x h1 v H1 s1 hH1 r1 q => ⟨okL_rep hH1 r1 q.1, σ, h1, _, hE.mono (Stp.mo hH s1), hH1, q.2,
    fun ds h2 vs H2 s2 hH2 r2 q2 => ⟨x, ds, h2, Q, RepV.mono (Stp.mo hH1 s2) _ r1, r2, hH2, q2, hc.step (s1.trans s2)⟩⟩⟩
def lstK (k : List D → Prop) : Option MO → Prop
  | some (.lst xs) => k xs
  | _ => False
theorem lstK_inv {k : List D → Prop} {o : Option MO} (q : lstK k o) : ∃ xs, o = some (.lst xs) ∧ k xs := by
  cases o with
  | none => exact q.elim
  | some o =>
    cases o with
    | lst xs => exact ⟨xs, rfl, q⟩
    | dic _ => exact q.elim
    | ins _ _ => exact q.elim
def appendD : M1 := fun x ds h Q => match x, ds with
  | .ref a, [d] => lstK (fun xs => xs.length < sizeLine ∧ Q .none (up h a (.lst (xs ++ [d])))) (h a)
  | _, _ => False
theorem xm_append : MtR X "list.append" (lowM X.kw appendD) := mtR_of fun x vs H QV ⟨d, ds, h, Q, rx, rv, hH, hr, hc⟩ => by
  unfold appendD at hr
  split at hr
  · rename_i a e
    obtain ⟨xs, eh, hz, q⟩ := lstK_inv hr
    cases (show x = _ from rx)
    obtain ⟨v, rfl, r1⟩ := rep1 rv
    obtain ⟨us, eH, ru⟩ := hH a _ eh
    exact ⟨_, mt_append, a, us, v, rfl, rfl, eH, by rw [← ru.length]; exact hz, hc.write hH eh (.of (P2.append ru.pair (.cons r1 .nil))) (d := .none) rfl q⟩
  · exact hr.elim
def popD : M1 := fun x ds h Q => match x, ds with
  | .ref a, [] => lstK (fun xs => ∃ y, xs.getLast? = some y ∧ Q y (up h a (.lst xs.dropLast))) (h a)
  | .ref a, [.int i] => lstK (fun xs => ∃ k y, ixN xs.length i = some k ∧ xs[k]? = some y ∧ (-(2 ^ 63) ≤ i ∧ i < 2 ^ 63) ∧ Q y (up h a (.lst (xs.eraseIdx k)))) (h a)
  | _, _ => False
theorem xm_pop : MtR X "list.pop" (lowM X.kw popD) := mtR_of fun x vs H QV ⟨d, ds, h, Q, rx, rv, hH, hr, hc⟩ => by
  unfold popD at hr
  split at hr
  · rename_i a
    obtain ⟨xs, eh, y, ey, q⟩ := lstK_inv hr
    cases (show x = _ from rx)
    cases (show vs = [] from rv)
    obtain ⟨us, eH, ru⟩ := hH a _ eh
    rw [List.getLast?_eq_getElem?] at ey
    obtain ⟨w, ew, rw'⟩ := P2.get ru.pair ey
    rw [ru.length] at ew
    exact ⟨_, mt_pop, a, us, w, rfl, rfl, eH, ew, hc.write hH eh (.of (P2.dropLast ru.pair)) rw' q⟩
  · rename_i a i
    obtain ⟨xs, eh, k, y, ek, ey, hb, q⟩ := lstK_inv hr
    cases (show x = _ from rx)
    obtain ⟨v, rfl, r1⟩ := rep1 rv
    cases (show v = _ from r1)
    obtain ⟨us, eH, ru⟩ := hH a _ eh
    obtain ⟨w, ew, rw'⟩ := P2.get ru.pair ey
    exact ⟨_, mt_popAt, a, us, i, k, w, rfl, rfl, eH, hb.1, hb.2, by rw [← ru.length]; exact (ixN_seq ek).1, ew, hc.write hH eh (.of (P2.eraseIdx k ru.pair)) rw' q⟩
  · exact hr.elim
def extendD : M1 := fun x ds h Q => match x, ds with
  | .ref a, [.ref b] => lstK (fun xs => lstK (fun ys => xs.length + ys.length ≤ sizeLine ∧ Q .none (up h a (.lst (xs ++ ys)))) (h b)) (h a)
  | _, _ => False
theorem xm_extend : MtR X "list.extend" (lowM X.kw extendD) := mtR_of fun x vs H QV ⟨d, ds, h, Q, rx, rv, hH, hr, hc⟩ => by
  unfold extendD at hr
  split at hr
  · rename_i a b
    obtain ⟨xs, eh, hr⟩ := lstK_inv hr
    obtain ⟨ys, eh2, hz, q⟩ := lstK_inv hr
    cases (show x = _ from rx)
    obtain ⟨v, rfl, r1⟩ := rep1 rv
    cases (show v = _ from r1)
    obtain ⟨us, eH, ru⟩ := hH a _ eh
    obtain ⟨ws, eH2, ru2⟩ := hH b _ eh2
    exact ⟨_, mt_extend, a, b, us, ws, rfl, rfl, eH, eH2, by rw [← ru.length, ← ru2.length]; exact hz, hc.write hH eh (.of (P2.append ru.pair ru2.pair)) (d := .none) rfl q⟩
  · exact hr.elim
/-! texts -/
theorem len_joinL (S : List Nat) : ∀ ps : List (List Nat), (TL.joinL S ps).length ≤ (ps.map (·.length)).sum + ps.length * S.length
  | [] => by simp [TL.joinL]
  | [p] => by simp [TL.joinL]
  | p :: q :: r => by
    have ih := len_joinL S (q :: r)
    show (p ++ (S ++ TL.joinL S (q :: r))).length ≤ _
    rw [List.length_append, List.length_append, List.map_cons, List.sum_cons]
    have e : (p :: q :: r).length * S.length = (q :: r).length * S.length + S.length := by rw [List.length_cons, Nat.add_one_mul]
    omega
theorem mem_joinL {c : Nat} (S : List Nat) : ∀ ps : List (List Nat), c ∈ TL.joinL S ps → c ∈ S ∨ ∃ p ∈ ps, c ∈ p
  | [], h => by simp [TL.joinL] at h
  | [p], h => .inr ⟨p, by simp, h⟩
  | p :: q :: r, h => by
    have h' : c ∈ p ++ (S ++ TL.joinL S (q :: r)) := h
    rcases List.mem_append.mp h' with h | h
    · exact .inr ⟨p, by simp, h⟩
    · rcases List.mem_append.mp h with h | h
      · exact .inl h
      · rcases mem_joinL S (q :: r) h with h | ⟨p', a, b⟩
        · exact .inl h
        · exact .inr ⟨p', by simp at a ⊢; right; exact a, b⟩
theorem strOk_iff {x : Str} : PyData.strOk x = true ↔ ∀ c ∈ x.cps.toList, c < 0x110000 := by
  unfold PyData.strOk
  rw [← Array.all_toList, List.all_eq_true]
  simp
theorem join_tl (a : Str) (ys : List Str) : (Txt.join a ys).cps.toList = TL.joinL a.cps.toList (ys.map fun y => y.cps.toList) := by
  rw [TL.join_eq]; exact TL.tl_join a ys
theorem okS.join {a : Str} {ys : List Str} (oa : okS a) (oy : ∀ z ∈ ys, okS z) (h : (ys.map (·.length)).sum + ys.length * a.length ≤ sizeLine) : okS (Txt.join a ys) := by
  refine ⟨?_, ?_⟩
  · have := len_joinL a.cps.toList (ys.map fun y => y.cps.toList)
    rw [← join_tl, List.map_map, List.length_map] at this
    have e : ys.map ((fun x => x.length) ∘ fun y : Str => y.cps.toList) = ys.map (·.length) := List.map_congr_left fun z _ => by show z.cps.toList.length = z.cps.size; exact Array.length_toList
    rw [e] at this
    have l : (Txt.join a ys).length = (Txt.join a ys).cps.toList.length := (Array.length_toList).symm
    have l2 : a.cps.toList.length = a.length := Array.length_toList
    rw [l]; rw [l2] at this; omega
  · rw [strOk_iff, join_tl]
    intro c hc
    rcases mem_joinL _ _ hc with h | ⟨p, hp, h⟩
    · exact strOk_iff.mp oa.2 c h
    · obtain ⟨z, hz, rfl⟩ := List.mem_map.mp hp
      exact strOk_iff.mp (oy z hz).2 c h
def joinK (a : Str) (h : MH) (Q : KD) (ds : List D) : Prop := ∃ ys, strsOf ds = some ys ∧ (ys.map (·.length)).sum + ys.length * a.length ≤ sizeLine ∧ Q (.str (Txt.join a ys)) h
def joinD : R1 := fun x y h Q => match x with
  | .str a => seqK (joinK a h Q) (seqOf h y)
  | _ => False
def dJoin (to te : E1) : E1 := fun σ h Q => to σ h fun x h1 => (∃ z, x = .str z) ∧ te σ h1 fun y h2 => joinD x y h2 Q
theorem de_join {o e : Expr} {to te : E1} {apos pos : Pos} (ho : DE X o to) (he : DE X e te) (hs : starEach [e] X.env = [(false, eval e X.env)] := by rfl) (hbase : attributeBase o "join" X.env (eval o X.env) = eval o X.env := by rfl) (hline : (apos.endLine == pos.line) = true := by rfl) :
    DE X (.Call (.Attribute o "join" apos) [e] [] pos) (dJoin to te) :=
  weakE (pe_join ho he hs hbase hline) fun σV H QV ⟨σ, h, Q, hE, hH, ht, hc⟩ => by
    refine ⟨σ, h, _, hE, hH, ht, fun x h1 v H1 s1 hH1 r1 q => ?_⟩
    obtain ⟨⟨z, rfl⟩, q⟩ := q
    obtain ⟨rfl, oz⟩ := r1
    refine ⟨⟨z, rfl⟩, σ, h1, _, hE.mono (Stp.mo hH s1), hH1, q, fun y h2 u H2 s2 hH2 r2 q2 => ?_⟩
    have q2 : seqK (joinK z h2 Q) (seqOf h2 y) := q2
    cases e2 : seqOf h2 y with
    | none => rw [e2] at q2; exact q2.elim
    | some ds =>
      rw [e2] at q2
      obtain ⟨ys, e3, hz, q3⟩ := q2
      obtain ⟨a, vs, rfl, rv, hs⟩ := seq_rep hH2 r2 e2
      obtain ⟨rfl, oy⟩ := strsOf_rep rv e3
      exact ⟨z, a, ys, rfl, rfl, hs, hz, (hc.step (s1.trans s2)).str hH2 (oz.join oy hz) q3⟩
/-! ### calls of defs -/
abbrev P1 := List D → MH → KD → Prop
def lowP (K : KW) (sp : P1) : Sp := fun vs H QV _ => lowC K sp vs H QV
theorem de_call {k : Nat} {f : Addr} {fd : FuncData} {ps : List Str} {sp : P1} {x : Str} {e : Expr} {es : List Expr} {t : A1} {p pos : Pos} (F : FnG X.prog X.w X.K X.mg X.base k f fd ps (lowP X.kw sp)) (hr : RoomG k X.A) (hg : Gl X x) (hm : X.mg x = some (.ref f)) (hk : PySem.W.keepIn X.K (.ref f) = true) (hb : Binds X.K fd ps [])
    (ha : DA X (e :: es) t) (hdb : (x == ("__debug__" : Str)) = false := by decide) (he : starEach (e :: es) X.env = (false, eval e X.env) :: starEach es X.env := by rfl) (hpl : (backTo pos (starEach es X.env)).any (·.1) = false := by rfl) :
    DE X (.Call (.Name x p) (e :: es) [] pos) (dCall sp t) :=
  weakE (pe_callG F hr hg hm hk hb pass0 ha hdb he hpl) fun σV H QV ⟨σ, h, Q, hE, hH, ht, hc⟩ =>
    ⟨σ, h, _, hE, hH, ht, fun ds h1 vs H1 s1 hH1 r1 q => ⟨ds, h1, Q, r1, hH1, q, hc.step s1⟩⟩
theorem de_call0 {k : Nat} {f : Addr} {fd : FuncData} {ps : List Str} {sp : P1} {x : Str} {p pos : Pos} (F : FnG X.prog X.w X.K X.mg X.base k f fd ps (lowP X.kw sp)) (hr : RoomG k X.A) (hg : Gl X x) (hm : X.mg x = some (.ref f)) (hk : PySem.W.keepIn X.K (.ref f) = true) (hb : Binds X.K fd ps [])
    (hdb : (x == ("__debug__" : Str)) = false := by decide) : DE X (.Call (.Name x p) [] [] pos) (dCall sp dNil) :=
  weakE (pe_callG0 F hr hg hm hk hb pass0 hdb) fun σV H QV ⟨σ, h, Q, hE, hH, ht, hc⟩ => (show lowC X.kw sp [] H QV from ⟨[], h, Q, rfl, hH, ht, hc⟩)
end
def startD (n : Nat) (ds : List D) : Sl := ds.map some ++ List.replicate (n - ds.length) none
theorem nth_append_none : ∀ (a : Sl) (n : Nat) (i : Nat) {d : D}, nth (a ++ List.replicate n none) i = some d → nth a i = some d
  | [], 0, _, _, h => by cases h
  | [], n + 1, 0, _, h => by cases h
  | [], n + 1, i + 1, _, h => nth_append_none [] n i h
  | x :: r, n, 0, _, h => h
  | x :: r, n, i + 1, _, h => nth_append_none r n i h
theorem rep_start {K : KW} {H : Hp} {N : List Str} {ds : List D} {vs : List V} (r : RepVs K H ds vs) : RepE K H (startD N.length ds) (L2.start N vs) := by
  refine ⟨?_, fun i d e => ?_⟩
  · unfold startD L2.start
    rw [List.length_append, List.length_append, List.length_map, List.length_map, List.length_replicate, List.length_replicate, r.length]
  · have q := nth_append_none _ _ _ e
    have look : ∀ (ds : List D) (i : Nat) {d : D}, nth (ds.map some) i = some d → ds[i]? = some d := by
      intro ds
      induction ds with
      | nil => intro i d h; cases h
      | cons x r ih =>
        intro i d h
        cases i with
        | zero => exact h
        | succ n => rw [List.getElem?_cons_succ]; exact ih n h
    obtain ⟨v, ev, rv⟩ := P2.get r.pair (look ds i q)
    refine ⟨v, ?_, rv⟩
    unfold L2.start
    rw [List.getElem?_append_left (by rw [List.length_map]; exact (List.getElem?_eq_some_iff.mp ev).1), List.getElem?_map, ev]; rfl
/-- at less -/
def Lh (Q : KD) : KD := fun d h => ∃ h0, le h0 h ∧ Q d h0
def endN (Q : KD) : Nd := { nx := fun _ h => Lh Q .none h, rt := Lh Q }
theorem df_ok {P : Program} {w : World} {K : PySem.W.Frag} {mg : Str → Option Value} {base : Heap} {x qual : Str} {st : Stmt} {f : Addr} {fd : FuncData} {N ps : List Str} {k : Nat} {sp : P1} (F : Fun K x qual st f fd) (S : FnScope N ps (defScope st)) (len : ∀ ds h Q, sp ds h Q → ds.length = ps.length)
    (hbody : ∀ (cdv : Value) (A : Around) (outer : List Env) (s : Shared) (H : Hp) (E : XK), RoomG k (A.deeper (envOfC qual (defScope st) s.heap.objs.size f cdv)) →
      ∃ t, DSs (cxOf CX0 P w K mg base N qual (defScope st) f cdv A outer s H E).nox (defBody st) t ∧ ∀ ds h Q, sp ds h Q → t (endN Q) (startD N.length ds) h) : FnG P w K mg base (k + 1) f fd ps (lowP ⟨K, w⟩ sp) := by
  refine fng_of F S (fun vs H QV E ⟨ds, h, Q, rv, hH, hs, hc⟩ => by rw [← rv.length]; exact len _ _ _ hs) fun cdv A outer s H vs QV E hr hq => ?_
  obtain ⟨t, ht, hb⟩ := hbody cdv A outer s H E hr
  obtain ⟨ds, h, Q, rv, hH, hs, hc⟩ := hq
  refine ⟨_, ht.nox, endN Q, startD N.length ds, h, rep_start rv, hH, hb ds h Q hs, ?_, ?_, ?_, ?_⟩
  · rintro σ' h' σV' H' s' e' r' ⟨h0, w0, q⟩
    exact hc .none h0 .non H' (s'.low w0) (r'.low w0) rfl q
  · rintro d h' v H' s' r' rv' ⟨h0, w0, q⟩
    exact hc d h0 v H' (s'.low w0) (r'.low w0) rv' q
  · intro _ _ _ _ _ _ _ z; exact z.elim
  · intro _ _ _ _ _ _ _ z; exact z.elim
end DL
namespace DL
open PySem PySem.Spec PyProof.Rows L2
section
variable {P : Program} {w : World} {K : PySem.W.Frag} {mg : Str → Option Value} {base : Heap}
/-- a def of the top, as it stands -/
structure TopF (K : PySem.W.Frag) (mg : Str → Option Value) (x qual : Str) (st : Stmt) (ps : List Str) : Prop where
  ex : ∃ f fd, Fun K x qual st f fd ∧ mg x = some (.ref f) ∧ L2.Binds K fd ps []
/-- a def that keeps its promise, ready for calls -/
structure Good (P : Program) (w : World) (K : PySem.W.Frag) (mg : Str → Option Value) (base : Heap) (k : Nat) (x : Str) (ps : List Str) (sp : P1) : Prop where
  ex : ∃ f fd, FnG P w K mg base k f fd ps (lowP ⟨K, w⟩ sp) ∧ mg x = some (.ref f) ∧ PySem.W.keepIn K (.ref f) = true ∧ L2.Binds K fd ps []
theorem good_ok {x qual : Str} {st : Stmt} {N ps : List Str} {k : Nat} {sp : P1} {t : S1} (T : TopF K mg x qual st ps) (S : FnScope N ps (defScope st)) (len : ∀ ds h Q, sp ds h Q → ds.length = ps.length)
    (body : ∀ (f : Addr) (cdv : Value) (A : Around) (outer : List Env) (s : Shared) (H : Hp) (E : XK), RoomG k (A.deeper (envOfC qual (defScope st) s.heap.objs.size f cdv)) →
      DSs (cxOf CX0 P w K mg base N qual (defScope st) f cdv A outer s H E).nox (defBody st) t) (sat : ∀ ds h Q, sp ds h Q → t (endN Q) (startD N.length ds) h) : Good P w K mg base (k + 1) x ps sp := by
  obtain ⟨f, fd, F, m, b⟩ := T.ex
  exact ⟨f, fd, df_ok F S len fun cdv A outer s H E hr => ⟨t, body f cdv A outer s H E hr, sat⟩, m, F.kp, b⟩
theorem Good.mono {x : Str} {ps : List Str} {sp : P1} {j k : Nat} (G : Good P w K mg base j x ps sp) (h : j ≤ k) : Good P w K mg base k x ps sp := by
  obtain ⟨f, fd, F, m, kp, b⟩ := G.ex
  exact ⟨f, fd, F.mono h, m, kp, b⟩
/-- no promise -/
theorem Good.no {x qual : Str} {st : Stmt} {ps : List Str} {k : Nat} (T : TopF K mg x qual st ps) : Good P w K mg base k x ps fun _ _ _ => False := by
  obtain ⟨f, fd, F, m, b⟩ := T.ex
  exact ⟨f, fd, ⟨fun _ _ _ _ ⟨_, _, _, _, _, z, _⟩ => z.elim, fun _ _ _ _ _ _ _ _ _ _ _ _ _ ⟨_, _, _, _, _, z, _⟩ => z.elim⟩, m, F.kp, b⟩
theorem Good.imp {x : Str} {ps : List Str} {sp sp' : P1} {k : Nat} (G : Good P w K mg base k x ps sp) (h : ∀ ds h Q, sp' ds h Q → sp ds h Q) : Good P w K mg base k x ps sp' := by
  obtain ⟨f, fd, F, m, kp, b⟩ := G.ex
  exact ⟨f, fd, F.imp fun _ _ _ _ ⟨ds, h', Q, r1, r2, z, c⟩ => ⟨ds, h', Q, r1, r2, h _ _ _ z, c⟩, m, kp, b⟩
end
section
variable {X : Cx}
theorem de_callG {k j : Nat} {ps : List Str} {sp : P1} {x : Str} {e : Expr} {es : List Expr} {t : A1} {p pos : Pos} (G : Good X.prog X.w X.K X.mg X.base j x ps sp) (hr : RoomG k X.A) (hj : j ≤ k) (hg : Gl X x)
    (ha : DA X (e :: es) t) (hdb : (x == ("__debug__" : Str)) = false := by decide) (he : starEach (e :: es) X.env = (false, eval e X.env) :: starEach es X.env := by rfl) (hpl : (backTo pos (starEach es X.env)).any (·.1) = false := by rfl) :
    DE X (.Call (.Name x p) (e :: es) [] pos) (dCall sp t) := by
  obtain ⟨f, fd, F, m, kp, b⟩ := G.ex
  exact de_call F (hr.mono hj) hg m kp b ha hdb he hpl
theorem de_callG0 {k j : Nat} {ps : List Str} {sp : P1} {x : Str} {p pos : Pos} (G : Good X.prog X.w X.K X.mg X.base j x ps sp) (hr : RoomG k X.A) (hj : j ≤ k) (hg : Gl X x) (hdb : (x == ("__debug__" : Str)) = false := by decide) :
    DE X (.Call (.Name x p) [] [] pos) (dCall sp dNil) := by
  obtain ⟨f, fd, F, m, kp, b⟩ := G.ex
  exact de_call0 F (hr.mono hj) hg m kp b hdb
end
/-- from what the top has written -/
theorem top_mk {K : PySem.W.Frag} {h : Heap} {mg : Str → Option Value} (X : K.In h) (G : h.Ns mainGlobals mg) {x qual : Str} {st : Stmt} {ps : List Str} {f : Addr} {oc : Value} {od an : Option Addr} {osl : Array (Option Value)} {kV doc pm cdv ct : Value}
    (a : PySem.W.nsIn K mainGlobals x = some (some (.ref f))) (l : K.lookup f = some ⟨oc, od, .func (PySem.W.fnOf x qual (defArgs st) (defBody st) (defScope st) .none kV doc pm an cdv ct), osl⟩)
    (c : PySem.W.codeIn K cdv qual = true) (k : PySem.W.keepIn K (.ref f) = true)
    (b : ∀ (kV doc pm : Value) (an : Option Addr) (cdv ct : Value) (us : List Value), us.length = ps.length → bindArgs (PySem.W.fnOf x qual (defArgs st) (defBody st) (defScope st) .none kV doc pm an cdv ct) ⟨us, []⟩ = pure (ps.zip us)) : TopF K mg x qual st ps :=
  have F := fun_mk (st := st) l c k
  ⟨f, _, F, PySem.W.mg_of X G a, F.binds b⟩
/-- the law's own end -/
def spLaw : P1 := fun ds h Q => ∃ ns : List Int, ds = [.rol (ns.map D.int)] ∧ ns.length ≤ 63 ∧ ∀ h', Q (.bool true) h'
theorem rol_of {K : KW} {H : Hp} (o : Only H) {a : Addr} {xs : List V} (s : SqL K.F H a xs) : ROL K H a xs := by
  rcases s with (s | ⟨ob, s⟩) | s
  · rcases o a with n | ⟨_, _, n⟩ <;> (rw [n] at s; cases s)
  · exact .inl ⟨ob, s⟩
  · exact .inr s
theorem reps_ints {K : KW} {H : Hp} : ∀ ns : List Int, RepVs K H (ns.map D.int) (ns.map V.int)
  | [] => rfl
  | n :: r => ⟨_, _, rfl, rfl, reps_ints r⟩
/-- the law's promise, whatever the world -/
def lowS0 (K : PySem.W.Frag) : Sp := fun vs H Q E => ∀ w, lowP ⟨K, w⟩ spLaw vs H Q E
theorem law_start0 {K : KW} {H : Hp} {a : Addr} {ns : List Int} (hl : ns.length ≤ 63) (o : Only H) (s : SqL K.F H a (ns.map V.int)) : lowP K spLaw [.ref a] H (fun v _ => v = .bl true) fun _ _ _ => False := by
  refine ⟨[.rol (ns.map D.int)], fun _ => none, fun d _ => d = .bool true, ⟨_, _, rfl, ⟨a, _, rfl, rol_of o s, reps_ints ns⟩, rfl⟩, (fun a o e => nomatch e), ⟨ns, rfl, hl, fun _ => rfl⟩, fun d h' v H' _ _ r q => ?_⟩
  subst q
  exact r
theorem law_start {K : PySem.W.Frag} {H : Hp} {a : Addr} {ns : List Int} (hl : ns.length ≤ 63) (o : Only H) (s : SqL K H a (ns.map V.int)) : lowS0 K [.ref a] H (fun v _ => v = .bl true) fun _ _ _ => False := fun w => law_start0 (K := ⟨K, w⟩) hl o s
theorem good_end {P : Program} {w : World} {K : PySem.W.Frag} {mg : Str → Option Value} {base : Heap} {k : Nat} {x : Str} {ps : List Str} {sp : P1} {st : Stmt} {qual : Str} {f : Addr} {oc : Value} {od an : Option Addr} {osl : Array (Option Value)} {kV doc pm cdv ct : Value} (G : Good P w K mg base k x ps sp) (m : mg x = some (.ref f)) :
    ∃ fd, FnG P w K mg base k f fd ps (lowP ⟨K, w⟩ sp) ∧ L2.Binds K fd ps [] := by
  obtain ⟨g, fd, F, m', kp, b⟩ := G.ex
  rw [m] at m'
  cases m'
  exact ⟨fd, F, b⟩
end DL
namespace DL
open PySem PySem.Spec PyProof.Rows L2
/-! ### dict displays -/
section
variable {K : KW} {h : MH} {H : Hp} {l : Addr}
/-- what stood hidden is shown -/
theorem rep_layO (r : RepH K h H) (n : h l = none) {o0 o : HO} (e0 : H l = some o0) (hd : DL.hid o0 = false) {u : MO} (x : RepO K (upd H l o) l u) : RepH K (up h l u) (upd H l o) := fun a w e => by
  have m : Mo K H (upd H l o) := Mo.upd e0 hd
  by_cases q : a = l
  · subst q
    rw [up_same] at e; cases e
    exact x
  · rw [up_ne q] at e
    exact (r a w e).mono m fun x f => by rw [upd_ne q]; exact f
end
theorem dic_K {K : KW} {H : Hp} {a : Addr} {kvs : Kvs} {kv : List (L2.Key × V)} (e : H a = some (.dK kv)) (r : RepKs K H kvs kv) : RepO K H a (.dic kvs) := Or.inl ⟨kv, e, r⟩
def dDic0 : E1 := fun _ h Q => ∀ p, h p = none → Q (.ref p) (up h p (.dic []))
def dPairs : List (E1 × E1) → Sl → MH → (Kvs → MH → Prop) → Prop
  | [], _, h, Q => Q [] h
  | (tk, tv) :: r, σ, h, Q => tk σ h fun x h1 => tv σ h1 fun y h2 => dPairs r σ h2 fun ps h3 => Q ((x, y) :: ps) h3
def dmerge (acc more : Kvs) : Kvs := more.foldl (fun a p => dset a p.1 p.2) acc
def dDisp (trs : List (E1 × E1)) : E1 := fun σ h Q => dPairs trs σ h fun ps h1 => ps.all (fun p => (scaK p.1).isSome) = true ∧ ps.length ≤ 15 ∧ ∀ p, h1 p = none → Q (.ref p) (up h1 p (.dic (dmerge [] ps)))
section
variable {X : Cx}
theorem de_dic0 {pos : Pos} : DE X (.Dict [] [] pos) dDic0 := weakE pe_dnewK fun σV H QV ⟨σ, h, Q, hE, hH, ht, hc⟩ p np =>
  hc (.ref p) _ _ _ (Stp.new np) (hH.newO np (dic_K upd_same .nil)) rfl (ht p (hH.nofresh np))
theorem merge_rep {K : KW} {H : Hp} : ∀ {more acc : Kvs} {kv : List (L2.Key × V)} {mv : List (L2.Key × V)}, RepKs K H acc kv → RepKs K H more mv → RepKs K H (dmerge acc more) (mergeK kv mv)
  | _, _, _, _, a, .nil => a
  | _, acc, kv, _, a, .cons (a := p) (b := x) (l₁ := ps) (l₂ := xs) q t => by
    show RepKs K H (dmerge (dset acc p.1 p.2) ps) (mergeK (putK kv x.1 x.2) xs)
    exact merge_rep (dset_K a q.1 q.2.1 q.2.2) t
theorem pairs_low {trs : List (E1 × E1)} : ∀ {σ : Sl} {σV : L2.St} {h : MH} {H : Hp} {Q : Kvs → MH → Prop} {QV : List (V × V) → Hp → Prop}, RepE X.kw H σ σV → RepH X.kw h H → dPairs trs σ h Q →
    (∀ ps h' vs H', Stp h H h' H' → RepH X.kw h' H' → Paired (fun (p : D × D) (q : V × V) => RepV X.kw H' p.1 q.1 ∧ RepV X.kw H' p.2 q.2) ps vs → Q ps h' → QV vs H') → tPairs (trs.map fun t => (lowE X.kw t.1, lowE X.kw t.2)) σV H QV := by
  induction trs with
  | nil => exact fun hE hH ht hc => hc [] _ [] _ Stp.refl hH .nil ht
  | cons t r ih =>
    intro σ σV h H Q QV hE hH ht hc
    refine ⟨σ, h, _, hE, hH, ht, fun x h1 v H1 s1 hH1 r1 q1 => ⟨σ, h1, _, hE.mono (Stp.mo hH s1), hH1, q1, fun y h2 u H2 s2 hH2 r2 q2 => ?_⟩⟩
    refine ih ((hE.mono (Stp.mo hH s1)).mono (Stp.mo hH1 s2)) hH2 q2 fun ps h3 vs H3 s3 hH3 rp q3 => ?_
    exact hc _ h3 _ H3 (s1.trans (s2.trans s3)) hH3 (.cons ⟨RepV.mono ((Stp.mo hH1 s2).trans (Stp.mo hH2 s3)) _ r1, RepV.mono (Stp.mo hH2 s3) _ r2⟩ rp) q3
theorem keys_low {K : KW} {H : Hp} : ∀ {ps : Kvs} {vs : List (V × V)}, Paired (fun (p : D × D) (q : V × V) => RepV K H p.1 q.1 ∧ RepV K H p.2 q.2) ps vs → ps.all (fun p => (scaK p.1).isSome) = true → ∃ kv : List (L2.Key × V), vs = kv.map (fun x => (kV x.1, x.2)) ∧ RepKs K H ps kv
  | _, _, .nil, _ => ⟨[], rfl, .nil⟩
  | _, _, @Paired.cons _ _ _ p q _ _ r t, a => by
    rw [List.all_cons, Bool.and_eq_true] at a
    obtain ⟨kv, e, rk⟩ := keys_low t a.2
    obtain ⟨k, ek⟩ := Option.isSome_iff_exists.mp a.1
    have ev := sca_rep r.1 ek
    refine ⟨(k, q.2) :: kv, ?_, .cons ⟨ek, by rw [← ev]; exact r.1, r.2⟩ rk⟩
    rw [e, List.map_cons, ← ev]
theorem de_disp {pos : Pos} {keys : List (Option Expr)} {values : List Expr} {trs : List (E1 × E1)} (p : PPs X pos keys values (trs.map fun t => (lowE X.kw t.1, lowE X.kw t.2))) (hall : keys.all (·.isSome) = true) (hl : keys.length = values.length) (h0 : keys ≠ []) (h15 : keys.length ≤ 15) :
    DE X (.Dict keys values pos) (dDisp trs) := weakE (pe_disp p hall hl h0 h15) fun σV H QV ⟨σ, h, Q, hE, hH, ht, hc⟩ a na => by
  have m : Mo X.kw H (upd H a (.dK [])) := Stp.mo hH (Stp.hide na)
  refine pairs_low (hE.mono m) (hH.hide na) ht fun ps h1 vs H1 s1 hH1 rp ⟨al, l15, q⟩ => ?_
  obtain ⟨n1, e1⟩ := s1 a (.dK []) (hH.nofresh na) upd_same
  obtain ⟨kv, ev, rk⟩ := keys_low rp al
  refine ⟨e1, kv, ev, by rw [← rk.length]; exact l15, ?_⟩
  have m1 : Mo X.kw H1 (upd H1 a (.dK (mergeK [] kv))) := Mo.upd e1 rfl
  have hide : Stp h H h (upd H a (.dK [])) := Stp.hide na
  refine hc (.ref a) _ _ _ ?_ (rep_layO hH1 n1 e1 rfl (dic_K upd_same ((merge_rep .nil rk).mono m1))) rfl (q a n1)
  intro b o eb fb
  have nb : b ≠ a := fun z => by rw [z, na] at fb; cases fb
  obtain ⟨x1, x2⟩ := (hide.trans s1) b o eb fb
  exact ⟨by rw [up_ne nb]; exact x1, by rw [upd_ne nb]; exact x2⟩
/-! ### a < b < c -/
theorem low_chain {r r' : R1} {ta tb tc : E1} {σV : L2.St} {H : Hp} {QV : VK} (h : lowE X.kw (dChain r r' ta tb tc) σV H QV) : tChain (lowR X.kw r) (lowR X.kw r') (lowE X.kw ta) (lowE X.kw tb) (lowE X.kw tc) σV H QV := by
  obtain ⟨σ, h, Q, hE, hH, ht, hc⟩ := h
  refine ⟨σ, h, _, hE, hH, ht, fun x h1 v1 H1 s1 hH1 r1 q1 => ⟨σ, h1, _, hE.mono (Stp.mo hH s1), hH1, q1, fun y h2 v2 H2 s2 hH2 r2 q2 => ?_⟩⟩
  have m1 := Stp.mo hH s1
  have m2 := Stp.mo hH1 s2
  refine ⟨x, y, h2, _, RepV.mono m2 _ r1, r2, hH2, q2, fun d h3 v3 H3 s3 hH3 r3 q3 => ?_⟩
  have m3 := Stp.mo hH2 s3
  cases d with
  | bool k =>
    refine ⟨k, r3, ?_⟩
    have q3 : if k = true then tc σ h3 fun z h4 => r' y z h4 Q else Q (.bool false) h3 := q3
    cases k with
    | false =>
      rw [if_neg Bool.false_ne_true] at q3 ⊢
      exact hc (.bool false) h3 _ H3 (s1.trans (s2.trans s3)) hH3 rfl q3
    | true =>
      rw [if_pos rfl] at q3 ⊢
      refine ⟨σ, h3, _, ((hE.mono m1).mono m2).mono m3, hH3, q3, fun z h4 v4 H4 s4 hH4 r4 q4 => ?_⟩
      exact ⟨y, z, h4, Q, RepV.mono (m3.trans (Stp.mo hH3 s4)) _ r2, r4, hH4, q4, hc.step (s1.trans (s2.trans (s3.trans s4)))⟩
  | _ => exact q3.elim
theorem de_chain {op op' : CmpOp} {r r' : R1} {a b c : Expr} {ta tb tc : E1} {pos : Pos} (ho : OpR X (compareOp op) (lowR X.kw r)) (ho' : OpR X (compareOp op') (lowR X.kw r')) (ha : DE X a ta) (hb : DE X b tb) (hcc : DE X c tc)
    (hm : lastMarks [op, op'] [b, c] = false := by with_unfolding_all rfl) : DE X (.Compare a [op, op'] [b, c] pos) (dChain r r' ta tb tc) := weakE (pe_chain ho ho' ha hb hcc hm) fun _ _ _ h => low_chain h
theorem dt_chain {op op' : CmpOp} {r r' : R1} {a b c : Expr} {ta tb tc : E1} {pos : Pos} (ho : OpR X (compareOp op) (lowR X.kw r)) (ho' : OpR X (compareOp op') (lowR X.kw r')) (ha : DE X a ta) (hb : DE X b tb) (hcc : DE X c tc)
    (hm : lastMarks [op, op'] [b, c] = false := by with_unfolding_all rfl) : DT X (.Compare a [op, op'] [b, c] pos) (dTest (dChain r r' ta tb tc)) :=
  weakT (pt_chain ho ho' ha hb hcc hm) fun σV H QV ⟨σ, h, Q, hE, hH, ht, hc⟩ => low_chain ⟨σ, h, asB Q, hE, hH, ht, asB_cl hc⟩
/-! ### i.bit_length() -/
def bitsD (x : D) (h : MH) (Q : KD) : Prop := match x with
  | .int i => Q (.int (Builtin.Int.intBits i : Nat)) h
  | _ => False
theorem de_bits {o : Expr} {to : E1} {apos pos : Pos} (ho : DE X o to) (hbase : attributeBase o "bit_length" X.env (eval o X.env) = eval o X.env := by rfl) (hline : (apos.endLine == pos.line) = true := by rfl) : DE X (.Call (.Attribute o "bit_length" apos) [] [] pos) (dUn bitsD to) :=
  weakE (pe_bits ho hbase hline) fun σV H QV ⟨σ, h, Q, hE, hH, ht, hc⟩ => ⟨σ, h, _, hE, hH, ht, fun d h' v H' s' r' rv q => by
    cases d with
    | int i => exact ⟨i, rv, (hc.step s').int r' q⟩
    | _ => exact q.elim⟩
/-! ### range with a step -/
def rgC (lo c : Int) (n : Nat) : List D := (List.range n).map fun i => .int (lo + (i : Nat) * c)
theorem src_rngC {K : KW} {H1 : Hp} {h1 : MH} {lo c : Int} {n : Nat} : SrcOk K (Itc lo c n) (rgC lo c n) (fun _ => True) h1 H1 := by
  have len : (rgC lo c n).length = n := by unfold rgC; rw [List.length_map, List.length_range]
  refine ⟨fun h H i _ _ _ hi => ?_, fun h H i v H' _ rh _ hi y => ?_, fun h H _ _ _ => ?_⟩
  · show i < n
    rw [← len]; exact hi
  · obtain ⟨rfl, rfl⟩ := y
    rw [len] at hi
    refine ⟨.int (lo + (i : Nat) * c), ?_, rfl, Stp.refl, rh⟩
    unfold rgC
    rw [List.getElem?_map, List.getElem?_range hi]; rfl
  · show n ≤ (rgC lo c n).length
    rw [len]; exact Nat.le_refl _
def rg3 (ds : List D) (h : MH) (Q : List D → (MH → Prop) → MH → Prop) : Prop := match ds with
  | [.int i, .int j, .int c] => ∃ n, RgC i j c n ∧ Q (rgC i c n) (fun _ => True) h
  | _ => False
def iRg3 (ta : A1) : I1 := fun σ h Q => ta σ h fun ds h1 => rg3 ds h1 Q
theorem rg3_inv {ds : List D} {h : MH} {Q : List D → (MH → Prop) → MH → Prop} (q : rg3 ds h Q) : ∃ i j c n, ds = [.int i, .int j, .int c] ∧ RgC i j c n ∧ Q (rgC i c n) (fun _ => True) h := by
  unfold rg3 at q
  split at q
  · obtain ⟨n, a, b⟩ := q; exact ⟨_, _, _, n, rfl, a, b⟩
  · exact q.elim
theorem di_range3 {tg a b c : Expr} {ta : A1} {p pos : Pos} (hg : Gl X "range") (hm : X.mg "range" = none) (ha : DA X [a, b, c] ta) (hs : starEach [a, b, c] X.env = (false, eval a X.env) :: starEach [b, c] X.env := by rfl) (hpl : (backTo pos (starEach [b, c] X.env)).any (·.1) = false := by rfl) :
    DI X tg (.Call (.Name "range" p) [a, b, c] [] pos) (iRg3 ta) :=
  weakI (pi_range3 hg hm ha hs hpl) fun σV H R ⟨σ, h, Q, hE, hH, ht, hc⟩ => ⟨σ, h, _, hE, hH, ht, fun ds h' vs H' s' r' rv q => by
    obtain ⟨i, j, c, n, rfl, b, q⟩ := rg3_inv q
    obtain ⟨v, r, rfl, r1, v2, r2, rfl, r3, v3, r4, rfl, r5, r6⟩ := rv
    cases (show v = _ from r1)
    cases (show v2 = _ from r3)
    cases (show v3 = _ from r5)
    cases (show r4 = [] from r6)
    exact ⟨i, j, c, n, rfl, b, hc _ _ _ _ _ s' r' src_rngC q⟩⟩
end
end DL
namespace DL
open PySem PySem.Spec PyProof.Rows L2
/-! ### enumerate(tuple) -/
open Sem (wp) in
open AutoSeq1 (wpAny_loadPart') in
theorem meets_enum_tup (l : Addr) (items : Array Value) (n : Nat) (dct : Option Addr) (sl : Array (Option Value)) :
    Meets (Builtin.«enumerate.__new__» ⟨[.type "enumerate", .ref l], []⟩) (fun _ R s => s.heap.get? l = some ⟨.type "tuple", dct, .seq items n, sl⟩ ∧
      R (.ok (.ret (.ref (s.heap.push { cls := .type "tuple_iterator", data := .fields #[.ref l, .int 0 0] }).objs.size)))
        { s with heap := (s.heap.push { cls := .type "tuple_iterator", data := .fields #[.ref l, .int 0 0] }).push { cls := .type "enumerate", data := .fields #[.none, .bool false, .ref s.heap.objs.size, rawInt 0, .none, .none] } }) :=
  .of_wp fun prog w A R s z => by
    obtain ⟨hp, g, d, tk, os⟩ := s; obtain ⟨hl, h⟩ := z
    have sub := sub_enumerate
    have T : Heap.IsTuple (Shared.heap ⟨hp, g, d, tk, os⟩) l items := ⟨_, hl, rfl, n, rfl⟩
    wp_walk using wpAny_loadPart' hl
    refine wpAny_stack_any fun st => wpAny_pure ?_; split
    · rename_i c _ _ _ _ _
      cases (c == Value.type "enumerate") <;> (wp_walk using wpAny_loadPart' hl, wpAny_pyIter_tuple T; exact ⟨_, rfl, h⟩)
    · (wp_walk using wpAny_loadPart' hl, wpAny_pyIter_tuple T); exact ⟨_, rfl, h⟩
theorem call_enum_tup {prog : Program} {w : World} {A : Around} {E : Value → Shared → Prop} {s : Shared} {l : Addr} {items : Array Value} {Q : Value → Shared → Prop} (T : s.heap.IsTuple l items)
    (h : ∀ h', IsEnum h' (s.heap.objs.size + 1) s.heap.objs.size 0 .none → h'.IsTupleIter s.heap.objs.size l 0 → (∀ b o, s.heap.get? b = some o → h'.get? b = some o) → Q (.ref (s.heap.objs.size + 1)) { s with heap := h' }) :
    wpAny (model prog w) A (call (.type "enumerate") [.ref l]) Q E s := by
  obtain ⟨⟨c, dct, dt, sl⟩, hl, hc, n, hd⟩ := T
  cases (show c = .type "tuple" from hc)
  cases (show dt = .seq items n from hd)
  refine callType_new F.called_enumerate (by decide) (F.typeCall_enumerate_1 _) (F.newCall_enumerate_1 _) (fun obj => F.args_object_init_2 obj _) F.entry_enumerate_new (meets_enum_tup l items n dct sl) ⟨hl, ?_⟩
  have hz : (s.heap.push { cls := .type "tuple_iterator", data := .fields #[.ref l, .int 0 0] }).objs.size = s.heap.objs.size + 1 := Heap.size_push ..
  show _ ∧ _
  rw [hz]
  have he := Heap.get?_push_size (s.heap.push { cls := .type "tuple_iterator", data := .fields #[.ref l, .int 0 0] }) (o := { cls := .type "enumerate", data := .fields #[.none, .bool false, .ref s.heap.objs.size, rawInt 0, .none, .none] }) rfl
  rw [hz] at he
  exact ⟨⟨_, he, rfl⟩, h _ he ⟨_, Heap.get?_push_of_some _ (Heap.get?_push_size _ rfl), rfl, rfl⟩ fun b o x => Heap.get?_push_of_some _ (Heap.get?_push_of_some _ x)⟩
/-- the tuple at a, each item in a new pair with its place -/
def IteT (K : PySem.W.Frag) (a : Addr) : It :=
  ⟨fun i H => ∃ (xs : List V) (x : V), SqT K H a xs ∧ xs[i]? = some x, fun i H v H' => ∃ T x, v = .ref T ∧ H T = none ∧ H' = upd H T (.tup [.int (i : Nat), x]) ∧ ∀ xs, SqT K H a xs → xs[i]? = some x, fun i H => ∃ xs : List V, SqT K H a xs ∧ xs.length = i⟩
theorem tup_apart {h : Heap} {a e it : Addr} {items : Array Value} {j : Int} {old : Value} {i : Nat} (T : h.IsTuple a items) (he : IsEnum h e it j old) (hi : h.IsTupleIter it a i) : a ≠ e ∧ a ≠ it := by
  obtain ⟨o, e1, c1, _⟩ := T
  obtain ⟨o2, e2, c2, _⟩ := hi
  refine ⟨fun z => ?_, fun z => ?_⟩
  · subst z; rw [he] at e1; cases e1; exact absurd (Value.type.inj c1) (by decide)
  · subst z; rw [e1] at e2; cases e2; rw [c1] at c2; exact absurd (Value.type.inj c2) (by decide)
theorem turn_enumT {P : Program} {w : World} {K : PySem.W.Frag} {elts : List Expr} {kk : Nat} {tpos : Pos} (a e it : Addr) :
    Turn P w K (.Tuple elts kk tpos) (IteT K a) [e, it] e (fun i h => (∃ old, IsEnum h e it ((i : Nat) : Int) old) ∧ h.IsTupleIter it a i ∧ e ≠ it) where
  mem := by simp
  obj := fun i h ⟨⟨old, he⟩, ⟨o, ho, hc, hd⟩, _⟩ b hb => by
    rcases (show b = e ∨ b = it by simpa using hb) with z | z
    · rw [z]; exact ⟨_, he, fun v q => nomatch q⟩
    · rw [z]; exact ⟨o, ho, fun v q => by rw [hd] at q; cases q⟩
  keep := fun i h h' ⟨⟨old, he⟩, hi, hne⟩ k => ⟨⟨old, k e (by simp) _ he⟩, hi.at fun o q => k it (by simp) o q, hne⟩
  item := by
    intro X hP hw hK hc i pins s σ H E I hf ⟨⟨old, he⟩, hit, hne⟩ ⟨xs, x, hq, hx⟩
    subst hP hw hK
    obtain ⟨its, rv, p, hz⟩ := I.tuple hq
    have T : s.heap.IsTuple a its.toArray := p
    obtain ⟨u, hu, ru⟩ := rv.get hx
    obtain ⟨ae, ai⟩ := tup_apart T he hit
    have lts : e < s.heap.objs.size ∧ it < s.heap.objs.size := ⟨Heap.lt_size he, let ⟨_, q, _⟩ := hit; Heap.lt_size q⟩
    have hlt : i < its.toArray.size := by
      have := (List.getElem?_eq_some_iff.mp hu).1
      simpa using this
    refine wpAny_pyNext_enum_itemD (Draws.tuple (A := X.A.in1) (show X.A.in1.handled = none from I.ok.hd hc) it a ai its.toArray) he ⟨hit, T⟩ hlt hne (by simp [hne, Ne.symm ae]) fun x' h' tk px ho st' hT hsz hk => ?_
    have ex : x' = u := by
      have px : its.toArray[i]? = some x' := px
      rw [List.getElem?_toArray, hu] at px
      exact (Option.some.inj px).symm
    subst ex
    refine ⟨_, rfl, wpAny_letOwnedTupleGo_enum (s := { s with heap := h', toks := tk + 1 }) ho fun h'' he' sb => ?_⟩
    have hT2 : h''.get? s.heap.objs.size = some { cls := .type "tuple", data := .seq #[.int i tk, x'] } := (sb.2 _ (Nat.ne_of_gt lts.1)).trans hT
    have I1 : Inv X pins σ (upd H s.heap.objs.size (.tup [.int (i : Nat), x])) { s with heap := h'', toks := tk + 1 } :=
      I.turnedNew (ch := [e, it]) (fun b ob hb q => (sb.2 b (fun z => hb (by simp [z]))).trans (hk b ob (fun z => hb (by simp [z])) (fun z => hb (by simp [z])) q)) hf (Nat.le_refl _)
        ⟨by show 2 ≤ sizeLine; decide, [.int i tk, x'], .cons ⟨_, rfl⟩ (.cons ru .nil), ⟨_, hT2, rfl, _, rfl⟩⟩
    refine ⟨.ref s.heap.objs.size, _, I1, rfl, ⟨_, x, rfl, I.hok.fresh (Nat.le_refl _), rfl, fun ys hy => by rw [I.tuple_inj hy hq]; exact hx⟩, ⟨⟨x', ?_⟩, st'.1.at fun o q => (sb.2 it (Ne.symm hne)).trans q, hne⟩, fun b hb => ?_⟩
    · rw [show ((i + 1 : Nat) : Int) = (i : Int) + 1 by omega]; exact he'
    · have hb' : b < s.heap.objs.size := (show b = e ∨ b = it by simpa using hb).elim (fun z => by rw [z]; exact lts.1) fun z => by rw [z]; exact lts.2
      rw [upd_ne (Nat.ne_of_lt hb')]
      exact (hf b hb).1
  done := by
    intro X hP hw hK hc i pins s σ H E I hf ⟨⟨old, he⟩, hit, hne⟩ ⟨xs, hq, hx⟩
    subst hP hw hK
    obtain ⟨its, rv, p, hz⟩ := I.tuple hq
    have T : s.heap.IsTuple a its.toArray := p
    obtain ⟨f0, f1, f2, f3, f4, f5⟩ := hf it (by simp)
    have hn : i = its.toArray.size := by rw [List.size_toArray, ← rv.length]; exact hx.symm
    refine wpAny_pyNext_enum_endD (Draws.tuple (A := X.A.in1) (show X.A.in1.handled = none from I.ok.hd hc) it a (tup_apart T he hit).2 its.toArray) he (by rw [← hn]; exact ⟨hit, T⟩) fun h' eb => ⟨rfl, I.turned (t' := s.toks) (fun b o hb q => eb b o hb q) f0 f1 f3 f4 f5⟩
  self := fun A i s Q E ⟨⟨_, he⟩, _⟩ h => wpAny_pyIter_enum he h
def iEnumT (K : PySem.W.Frag) (ta : TA) : TI := fun σ H R => ta σ H fun vs H1 => ∃ a xs, vs = [.ref a] ∧ ((SqL K H1 a xs ∧ R (Ite K a) H1) ∨ (SqT K H1 a xs ∧ R (IteT K a) H1))
theorem pi_enumT {X : Cx} {e : Expr} {ta : TA} {p pos tpos : Pos} {elts : List Expr} {kk : Nat} (hg : Gl X "enumerate") (hm : X.mg "enumerate" = none) (ha : PA X [e] ta) (hs : starEach [e] X.env = [(false, eval e X.env)] := by rfl) :
    PI X (.Tuple elts kk tpos) (.Call (.Name "enumerate" p) [e] [] pos) (iEnumT X.K ta) := by
  refine ⟨fun pins s σ H R I h => Call_ (ld_blt I hg hm boot_enumerate (PyProof.Rows.callWith_type1 (thn (ha.run pos pins s σ H _ I h) fun us s1 ⟨vs, H1, I1, r1, a, xs, ex, q⟩ => ?_) hs rfl))⟩
  subst ex
  cases r1 with
  | cons r rr =>
    cases rr; cases r
    have fp : ∀ b ∈ [s1.heap.objs.size + 1, s1.heap.objs.size], s1.heap.objs.size ≤ b := fun b hb => (show b = s1.heap.objs.size + 1 ∨ b = s1.heap.objs.size by simpa using hb).elim (fun z => by rw [z]; exact Nat.le_add_right _ _) fun z => by rw [z]; exact Nat.le_refl _
    rcases q with ⟨hq, q⟩ | ⟨hq, q⟩
    · obtain ⟨its, rv, p', hz⟩ := I1.list hq
      exact call_enumerate_list p'.isList fun h' he hit hsz hk => wpAny_pyIter_enum he ⟨s1.heap.objs.size + 1, [s1.heap.objs.size + 1, s1.heap.objs.size], _, _, H1, rfl, I1.kept (t' := s1.toks) hk, turn_enum a _ _, ⟨⟨.none, he⟩, hit, Nat.succ_ne_self _⟩, fun b hb => I1.fpOk (fp b hb) (I1.hok.fresh (fp b hb)), q⟩
    · obtain ⟨its, rv, p', hz⟩ := I1.tuple hq
      exact call_enum_tup (show s1.heap.IsTuple a its.toArray from p') fun h' he hit hk => wpAny_pyIter_enum he ⟨s1.heap.objs.size + 1, [s1.heap.objs.size + 1, s1.heap.objs.size], _, _, H1, rfl, I1.kept (t' := s1.toks) hk, turn_enumT a _ _, ⟨⟨.none, he⟩, hit, Nat.succ_ne_self _⟩, fun b hb => I1.fpOk (fp b hb) (I1.hok.fresh (fp b hb)), q⟩
end DL
namespace DL
open PySem PySem.Spec PyProof.Rows L2
/-! ### enumerate, zip as sources -/
def enD : Nat → List D → List D
  | _, [] => []
  | n, x :: r => .tup [.int n, x] :: enD (n + 1) r
theorem enD_get : ∀ (xs : List D) (n i : Nat), (enD n xs)[i]? = (xs[i]?).map fun x => .tup [.int ((n + i : Nat) : Int), x]
  | [], _, _ => by simp [enD]
  | x :: r, n, 0 => rfl
  | x :: r, n, i + 1 => by
    rw [enD, List.getElem?_cons_succ, List.getElem?_cons_succ, enD_get r (n + 1) i]
    have e : n + 1 + i = n + (i + 1) := by omega
    rw [e]
theorem enD_len : ∀ (xs : List D) (n : Nat), (enD n xs).length = xs.length
  | [], _ => rfl
  | x :: r, n => by rw [enD, List.length_cons, List.length_cons, enD_len r (n + 1)]
def zpD : List D → List D → List D
  | x :: r, y :: t => .tup [x, y] :: zpD r t
  | _, _ => []
theorem zpD_get : ∀ (xs ys : List D) (i : Nat) (x y : D), xs[i]? = some x → ys[i]? = some y → (zpD xs ys)[i]? = some (.tup [x, y])
  | x :: r, y :: t, 0, _, _, e1, e2 => by cases e1; cases e2; rfl
  | x :: r, y :: t, i + 1, a, b, e1, e2 => by
    rw [List.getElem?_cons_succ] at e1 e2
    rw [zpD, List.getElem?_cons_succ]; exact zpD_get r t i a b e1 e2
  | [], _, _, _, _, e1, _ => by simp at e1
  | _ :: _, [], _, _, _, _, e2 => by simp at e2
theorem zpD_len : ∀ (xs ys : List D), (zpD xs ys).length = min xs.length ys.length
  | x :: r, y :: t => by rw [zpD, List.length_cons, List.length_cons, List.length_cons, zpD_len r t]; omega
  | [], _ => by simp [zpD]
  | _ :: _, [] => by simp [zpD]
theorem rep_lst {K : KW} {h : MH} {H : Hp} {a : Addr} {xs : List D} (r : RepH K h H) (e : stabO a xs h) : ∃ vs, H a = some (.lst vs) ∧ RepVs K H xs vs := r a (.lst xs) e
section
variable {K : KW}
/-- a new pair -/
theorem pair_rep {h : MH} {H : Hp} {T : Addr} {x y : V} {d e : D} (rh : RepH K h H) (nT : H T = none) (r1 : RepV K H d x) (r2 : RepV K H e y) :
    RepV K (upd H T (.tup [x, y])) (.tup [d, e]) (.ref T) ∧ Stp h H h (upd H T (.tup [x, y])) ∧ RepH K h (upd H T (.tup [x, y])) := by
  have m := Stp.mo rh (Stp.hide (o := .tup [x, y]) nT)
  exact ⟨⟨T, _, rfl, .inl (.inl upd_same), .cons (RepV.mono m _ r1) (.cons (RepV.mono m _ r2) .nil)⟩, Stp.hide nT, rh.hide nT⟩
theorem src_en {J : It} {H1 : Hp} {h1 : MH} {stab : MH → Prop} {xs : List D} {Sq : Hp → List V → Prop}
    (at_ : ∀ h H, Stp h1 H1 h H → RepH K h H → stab h → ∃ vs, Sq H vs ∧ RepVs K H xs vs)
    (go : ∀ i H vs v, Sq H vs → vs[i]? = some v → J.go i H) (yl : ∀ i H v H', J.yld i H v H' → ∃ T x, v = .ref T ∧ H T = none ∧ H' = upd H T (.tup [.int (i : Nat), x]) ∧ ∀ vs, Sq H vs → vs[i]? = some x) (st : ∀ H vs, Sq H vs → J.stop vs.length H) : SrcOk K J (enD 0 xs) stab h1 H1 := by
  refine ⟨fun h H i q rh sb hi => ?_, fun h H i v H' q rh sb hi y => ?_, fun h H q rh sb => ?_⟩
  · obtain ⟨vs, s, r⟩ := at_ h H q rh sb
    rw [enD_len] at hi
    obtain ⟨w, ew, _⟩ := P2.get r.pair (List.getElem?_eq_getElem hi)
    exact go i H vs w s ew
  · obtain ⟨vs, s, r⟩ := at_ h H q rh sb
    obtain ⟨T, x, rfl, nT, rfl, hx⟩ := yl i H v H' y
    obtain ⟨d, ed, rd⟩ := P2.get' r.pair (hx vs s)
    obtain ⟨a, b, c⟩ := pair_rep (d := .int (i : Nat)) (x := .int (i : Nat)) rh nT rfl rd
    exact ⟨_, by rw [enD_get, ed, Nat.zero_add]; rfl, a, b, c⟩
  · obtain ⟨vs, s, r⟩ := at_ h H q rh sb
    rw [enD_len, r.length]
    exact st H vs s
theorem src_zp {J : It} {H1 : Hp} {h1 : MH} {stab : MH → Prop} {xs ys : List D} {Sa Sb : Hp → List V → Prop}
    (at_ : ∀ h H, Stp h1 H1 h H → RepH K h H → stab h → ∃ vs us, Sa H vs ∧ RepVs K H xs vs ∧ Sb H us ∧ RepVs K H ys us)
    (go : ∀ i H vs us v u, Sa H vs → Sb H us → vs[i]? = some v → us[i]? = some u → J.go i H) (yl : ∀ i H v H', J.yld i H v H' → ∃ T x y, v = .ref T ∧ H T = none ∧ H' = upd H T (.tup [x, y]) ∧ (∀ vs, Sa H vs → vs[i]? = some x) ∧ ∀ us, Sb H us → us[i]? = some y)
    (st : ∀ H vs us, Sa H vs → Sb H us → J.stop (min vs.length us.length) H) : SrcOk K J (zpD xs ys) stab h1 H1 := by
  refine ⟨fun h H i q rh sb hi => ?_, fun h H i v H' q rh sb hi y => ?_, fun h H q rh sb => ?_⟩
  · obtain ⟨vs, us, s, r, s2, r2⟩ := at_ h H q rh sb
    rw [zpD_len] at hi
    obtain ⟨w, ew, _⟩ := P2.get r.pair (List.getElem?_eq_getElem (show i < xs.length by omega))
    obtain ⟨w2, ew2, _⟩ := P2.get r2.pair (List.getElem?_eq_getElem (show i < ys.length by omega))
    exact go i H vs us w w2 s s2 ew ew2
  · obtain ⟨vs, us, s, r, s2, r2⟩ := at_ h H q rh sb
    obtain ⟨T, x, y, rfl, nT, rfl, hx, hy⟩ := yl i H v H' y
    obtain ⟨d, ed, rd⟩ := P2.get' r.pair (hx vs s)
    obtain ⟨e, ee, re⟩ := P2.get' r2.pair (hy us s2)
    obtain ⟨a, b, c⟩ := pair_rep rh nT rd re
    exact ⟨_, zpD_get _ _ _ _ _ ed ee, a, b, c⟩
  · obtain ⟨vs, us, s, r, s2, r2⟩ := at_ h H q rh sb
    rw [zpD_len, r.length, r2.length]
    exact st H vs us s s2
end
def enO (a : Addr) (h : MH) (Q : List D → (MH → Prop) → MH → Prop) : Option MO → Prop
  | some (.lst xs) => Q (enD 0 xs) (stabO a xs) h
  | _ => False
def enK (ds : List D) (h : MH) (Q : List D → (MH → Prop) → MH → Prop) : Prop := match ds with
  | [.tup xs] => Q (enD 0 xs) (fun _ => True) h
  | [.ref a] => enO a h Q (h a)
  | _ => False
def iEn (ta : A1) : I1 := fun σ h Q => ta σ h fun ds h1 => enK ds h1 Q
def zpO (a b : Addr) (h : MH) (Q : List D → (MH → Prop) → MH → Prop) : Option MO → Option MO → Prop
  | some (.lst xs), some (.lst ys) => Q (zpD xs ys) (fun h => stabO a xs h ∧ stabO b ys h) h
  | _, _ => False
def zpK (ds : List D) (h : MH) (Q : List D → (MH → Prop) → MH → Prop) : Prop := match ds with
  | [.tup xs, .tup ys] => Q (zpD xs ys) (fun _ => True) h
  | [.ref a, .ref b] => zpO a b h Q (h a) (h b)
  | _ => False
def iZp (ta : A1) : I1 := fun σ h Q => ta σ h fun ds h1 => zpK ds h1 Q
section
variable {X : Cx}
theorem di_enum {e : Expr} {ta : A1} {p pos tpos : Pos} {elts : List Expr} {kk : Nat} (hg : Gl X "enumerate") (hm : X.mg "enumerate" = none) (ha : DA X [e] ta) (hs : starEach [e] X.env = [(false, eval e X.env)] := by rfl) :
    DI X (.Tuple elts kk tpos) (.Call (.Name "enumerate" p) [e] [] pos) (iEn ta) :=
  weakI (pi_enumT hg hm ha hs) fun σV H R ⟨σ, h, Q, hE, hH, ht, hc⟩ => ⟨σ, h, _, hE, hH, ht, fun ds h' vs H' s' r' rv q => by
    have q : enK ds h' Q := q
    unfold enK at q
    split at q
    · rename_i xs
      obtain ⟨v, r, rfl, r1, r2⟩ := rv
      cases (show r = [] from r2)
      obtain ⟨a, us, rfl, sq, ru⟩ := r1
      refine ⟨a, us, rfl, .inr ⟨sq, hc _ _ _ _ _ s' r' (src_en (Sq := fun H vs => SqT X.K H a vs) (fun h2 H2 q2 _ _ => ⟨us, (Stp.mo r' q2).t _ _ sq, RepVs.mono (Stp.mo r' q2) _ ru⟩) (fun i H vs v s e => ⟨vs, v, s, e⟩) (fun i H v H' y => y) fun H vs s => ⟨vs, s, rfl⟩) q⟩⟩
    · rename_i a _
      obtain ⟨v, r, rfl, r1, r2⟩ := rv
      cases (show r = [] from r2)
      cases (show v = .ref a from r1)
      cases e : h' a with
      | none => rw [e] at q; exact q.elim
      | some o =>
        rw [e] at q
        cases o with
        | lst xs =>
          obtain ⟨us, eH, ru⟩ := r' a _ e
          refine ⟨a, us, rfl, .inl ⟨SqL.of eH, hc _ _ _ _ _ s' r' (src_en (Sq := fun H vs => SqL X.K H a vs) (fun h2 H2 _ rh sb => let ⟨ws, e2, rw2⟩ := rep_lst rh sb; ⟨ws, SqL.of e2, rw2⟩) (fun i H vs v s e => ⟨vs, v, s, e⟩) (fun i H v H' y => y) fun H vs s => ⟨vs, s, Nat.le_refl _⟩) q⟩⟩
        | dic _ => exact q.elim
        | ins _ _ => exact q.elim
    · exact q.elim⟩
theorem di_zip {e e2 : Expr} {ta : A1} {p pos tpos : Pos} {elts : List Expr} {kk : Nat} (hg : Gl X "zip") (hm : X.mg "zip" = none) (ha : DA X [e, e2] ta)
    (hs : starEach [e, e2] X.env = (false, eval e X.env) :: starEach [e2] X.env := by rfl) (hpl : (backTo pos (starEach [e2] X.env)).any (·.1) = false := by rfl) :
    DI X (.Tuple elts kk tpos) (.Call (.Name "zip" p) [e, e2] [] pos) (iZp ta) :=
  weakI (RZ.pi_zipA hg hm ha hs hpl) fun σV H R ⟨σ, h, Q, hE, hH, ht, hc⟩ => ⟨σ, h, _, hE, hH, ht, fun ds h' vs H' s' r' rv q => by
    have q : zpK ds h' Q := q
    unfold zpK at q
    split at q
    · rename_i xs ys
      obtain ⟨v, r, rfl, r1, v2, r2, rfl, r3, r4⟩ := rv
      cases (show r2 = [] from r4)
      obtain ⟨a, us, rfl, sq, ru⟩ := r1
      obtain ⟨b, ws, rfl, sq2, rw2⟩ := r3
      refine ⟨a, b, us, ws, rfl, .inr ⟨sq, sq2, hc _ _ _ _ _ s' r' (src_zp (Sa := fun H vs => SqT X.K H a vs) (Sb := fun H vs => SqT X.K H b vs) (fun h2 H2 q2 _ _ => ⟨us, ws, (Stp.mo r' q2).t _ _ sq, RepVs.mono (Stp.mo r' q2) _ ru, (Stp.mo r' q2).t _ _ sq2, RepVs.mono (Stp.mo r' q2) _ rw2⟩)
        (fun i H vs us v u s s2 e e2 => ⟨vs, us, v, u, s, s2, e, e2⟩) (fun i H v H' y => y) fun H vs us s s2 => ⟨vs, us, s, s2, by omega⟩) q⟩⟩
    · rename_i a b _
      obtain ⟨v, r, rfl, r1, v2, r2, rfl, r3, r4⟩ := rv
      cases (show r2 = [] from r4)
      cases (show v = .ref a from r1)
      cases (show v2 = .ref b from r3)
      have q : zpO a b h' Q (h' a) (h' b) := q
      cases e : h' a with
      | none => rw [e] at q; exact (show False from q).elim
      | some o =>
        cases f : h' b with
        | none => rw [e, f] at q; cases o <;> exact (show False from q).elim
        | some o2 =>
          rw [e, f] at q
          cases o <;> cases o2 <;> first | (exact (show False from q).elim) | skip
          rename_i xs ys
          obtain ⟨us, eH, ru⟩ := r' a _ e
          obtain ⟨ws, fH, rw2⟩ := r' b _ f
          refine ⟨a, b, us, ws, rfl, .inl ⟨SqL.of eH, SqL.of fH, hc _ _ _ _ _ s' r' (src_zp (Sa := fun H vs => SqL X.K H a vs) (Sb := fun H vs => SqL X.K H b vs) (fun h2 H2 _ rh sb => let ⟨x1, e2, x2⟩ := rep_lst rh sb.1; let ⟨y1, f2, y2⟩ := rep_lst rh sb.2; ⟨x1, y1, SqL.of e2, x2, SqL.of f2, y2⟩)
            (fun i H vs us v u s s2 e e2 => ⟨vs, us, v, u, s, s2, e, e2⟩) (fun i H v H' y => y) fun H vs us s s2 => ⟨vs, us, s, s2, by omega⟩) q⟩⟩
    · exact q.elim⟩
end
end DL
namespace DL
open PySem PySem.Spec PyProof.Rows L2
/-! ### repr: its signs are signs -/
def okC (x : Str) : Prop := PyData.strOk x = true
theorem okC_iff {x : Str} : okC x ↔ ∀ c ∈ x.cps.toList, c < 0x110000 := by
  unfold okC PyData.strOk
  rw [← Array.all_toList, List.all_eq_true]
  simp
theorem okC.app {x y : Str} (a : okC x) (b : okC y) : okC (x ++ y) := by
  rw [okC_iff] at a b ⊢
  intro c hc
  have hc : c ∈ (x.cps ++ y.cps).toList := hc
  rw [Array.toList_append, List.mem_append] at hc
  exact hc.elim (a c) (b c)
theorem char_ok (c : Char) : c.toNat < 0x110000 := by
  have h := c.valid
  unfold Char.toNat
  rcases h with h | h <;> omega
theorem okC_of (s : String) : okC (Str.ofString s) := by
  rw [okC_iff]
  intro c hc
  rw [Str.ofString_eq_toList] at hc
  have hc : c ∈ s.toList.map Char.toNat := by simpa using hc
  simp only [List.mem_map] at hc
  obtain ⟨d, _, rfl⟩ := hc
  exact char_ok d
theorem hex_ok (n c : Nat) : ∀ d ∈ List.replicate n 48 ++ (Nat.toDigits 16 c).map Char.toNat, d < 0x110000 := by
  intro d hd
  rcases List.mem_append.mp hd with hd | hd
  · rw [(List.mem_replicate.mp hd).2]; decide
  · obtain ⟨e, _, rfl⟩ := List.mem_map.mp hd
    exact char_ok e
theorem reprChar_ok (q c : Nat) (hc : c < 0x110000) : ∀ d ∈ Builtin.Str.reprChar q c, d < 0x110000 := by
  have cons : ∀ {x : Nat} {l : List Nat}, x < 0x110000 → (∀ d ∈ l, d < 0x110000) → ∀ d ∈ x :: l, d < 0x110000 := fun hx hl d hd => (List.mem_cons.mp hd).elim (fun e => by rw [e]; exact hx) (hl d)
  have nil : ∀ d ∈ ([] : List Nat), d < 0x110000 := by simp
  unfold Builtin.Str.reprChar
  dsimp only
  repeat' split
  all_goals first
    | exact cons (by decide) (cons hc nil)
    | exact cons (by decide) (cons (by decide) nil)
    | exact cons hc nil
    | exact cons (by decide) (cons (by decide) (hex_ok _ _))
theorem foldl_ok (q : Nat) : ∀ (l : List Nat) (acc : Array Nat), (∀ c ∈ l, c < 0x110000) → (∀ c ∈ acc.toList, c < 0x110000) → ∀ c ∈ (l.foldl (fun out c => out ++ (Builtin.Str.reprChar q c).toArray) acc).toList, c < 0x110000
  | [], acc, _, h => h
  | c :: r, acc, h, ha => by
    rw [List.foldl_cons]
    refine foldl_ok q r _ (fun d hd => h d (by simp [hd])) fun d hd => ?_
    rw [Array.toList_append, List.mem_append] at hd
    exact hd.elim (ha d) (reprChar_ok q c (h c (by simp)) d)
theorem okC_repr {x : Str} (h : okC x) : okC (reprText x) := by
  rw [okC_iff] at h ⊢
  unfold reprText
  have qq : reprQuote x < 0x110000 := by unfold reprQuote; split <;> decide
  intro c hc
  have hc : c ∈ ((x.cps.foldl (fun out c => out ++ (Builtin.Str.reprChar (reprQuote x) c).toArray) #[reprQuote x]).push (reprQuote x)).toList := hc
  rw [Array.toList_push, List.mem_append, ← Array.foldl_toList] at hc
  rcases hc with hc | hc
  · exact foldl_ok _ _ _ h (fun d hd => by
      have e : d = reprQuote x := by simpa using hd
      rw [e]; exact qq) c hc
  · have : c = reprQuote x := by simpa using hc
    rw [this]; exact qq
theorem okC_join {sep : Str} (hs : okC sep) : ∀ {ts : List Str}, (∀ t ∈ ts, okC t) → okC (Str.join sep ts)
  | [], _ => okC_of ""
  | [x], h => h x (by simp)
  | x :: y :: r, h => by
    show okC (x ++ sep ++ Str.join sep (y :: r))
    exact ((h x (by simp)).app hs).app (okC_join hs fun t ht => h t (by simp [ht]))
theorem okC_from : ∀ {ts : List Str} {k : Nat} {acc : Str}, (∀ t ∈ ts, okC t) → okC acc → okC (textFrom k acc ts)
  | [], _, _, _, a => a
  | t :: ts, k, acc, h, a => by
    show okC (textFrom (k + 1) (acc ++ (if k > 0 then ", " else "" : String) ++ t) ts)
    exact okC_from (fun u hu => h u (by simp [hu])) ((a.app (okC_of _)).app (h t (by simp)))
mutual
theorem okC_shown {K : KW} {H : Hp} : ∀ (n : Nat) (d : D) {v : V}, pure? n d = true → RepV K H d v → okC (pd d).shown
  | _, .none, _, _, _ => okC_of "None"
  | _, .bool b, _, _, _ => by cases b <;> exact okC_of _
  | _, .int i, _, _, _ => okC_of _
  | _, .str x, _, _, r => okC_repr r.2.2
  | 0, .tup ds, _, h, _ => by simp [pure?] at h
  | n + 1, .tup ds, _, h, r => by
    have h' : pures? n ds = true := by simpa [pure?] using h
    obtain ⟨_, _, _, _, rs⟩ := r
    have hs := okC_showns n ds h' rs
    show okC (tupleText (PyData.shownAll (pds ds)))
    unfold tupleText
    refine ((okC_of "(").app (okC_join (okC_of ", ") hs)).app ?_
    split <;> exact okC_of _
  | 0, .rol ds, _, h, _ => by simp [pure?] at h
  | n + 1, .rol ds, _, h, r => by
    have h' : pures? n ds = true := by simpa [pure?] using h
    obtain ⟨_, _, _, _, rs⟩ := r
    have hs := okC_showns n ds h' rs
    show okC (listText (PyData.shownAll (pds ds)))
    unfold listText
    exact (okC_from hs (okC_of "[")).app (okC_of "]")
  | n, .ref _, _, h, _ => by simp [pure?] at h
  | n, .ty _, _, h, _ => by simp [pure?] at h
theorem okC_showns {K : KW} {H : Hp} : ∀ (n : Nat) (ds : List D) {vs : List V}, pures? n ds = true → RepVs K H ds vs → ∀ t ∈ PyData.shownAll (pds ds), okC t
  | _, [], _, _, _ => by simp [pds, PyData.shownAll]
  | n, d :: ds, _, h, r => by
    have h' : pure? n d = true ∧ pures? n ds = true := by simpa [pures?] using h
    obtain ⟨_, _, _, r1, r2⟩ := r
    intro t ht
    rw [pds, PyData.shownAll] at ht
    rcases List.mem_cons.mp ht with rfl | ht
    · exact okC_shown n d h'.1 r1
    · exact okC_showns n ds h'.2 r2 t ht
end
end DL
namespace DL
open PySem PySem.Spec PyProof.Rows L2
/-! ### repr -/
def reprD (x : D) (h : MH) (Q : KD) : Prop := pure? 60 x = true ∧ (pd x).showable = true ∧ (pd x).shown.length ≤ sizeLine ∧ Q (.str (pd x).shown) h
mutual
theorem pd_noDict : ∀ d : D, (pd d).hasDict = false
  | .none => rfl
  | .bool _ => rfl
  | .int _ => rfl
  | .str _ => rfl
  | .ref _ => rfl
  | .ty _ => rfl
  | .tup ds => by show PyData.hasDictAll (pds ds) = false; exact pds_noDict ds
  | .rol ds => by show PyData.hasDictAll (pds ds) = false; exact pds_noDict ds
theorem pds_noDict : ∀ ds : List D, PyData.hasDictAll (pds ds) = false
  | [] => rfl
  | d :: ds => by rw [pds, PyData.hasDictAll, pd_noDict d, pds_noDict ds]; rfl
end
section
variable {X : Cx}
theorem xd_repr (hu : X.A.units + 65 < cLine) (hg : X.A.guards = some []) : CallR X (.builtin "repr") (lowC X.kw (on1 reprD)) := by
  intro pins s σ H xs us QV I rx ⟨ds, h, Q, rv, hH, hr, hc⟩
  obtain ⟨d, rfl, p, sh, len, q⟩ := on1_inv hr
  obtain ⟨x, rfl, rd⟩ := rep1 rv
  have ok : okS (pd d).shown := ⟨len, okC_shown 60 d p rd⟩
  have fin : QV (.str (pd d).shown) H := hc (.str _) h _ H Stp.refl hH ⟨rfl, ok⟩ q
  cases rx with
  | cons r1 r2 =>
    cases r2
    have big : ∀ {a : Addr}, x = .ref a → wpAny (model X.prog X.w) X.A (call (.builtin "repr") [.ref a]) (EP X pins σ QV) X.xe s := by
      rintro a rfl
      obtain ⟨dp, _⟩ := dp_of rd p
      obtain ⟨as, rr⟩ := Dp.reads I (pd d) (.ref a) (.ref a) dp rfl
      have dep := pd_depth 60 d p
      exact repr_of_reads' rr sh (fun z => by rw [pd_noDict] at z; cases z) hg (by omega) (fun _ _ e => e) (fun h' u tk hk => ⟨.str _, H, I.kept (t' := tk) hk, ⟨u, rfl⟩, fin⟩) len
    cases d with
    | none => cases (show x = _ from rd); cases r1; exact PySem.P.repr_of_none ⟨.str _, H, I.tok _, ⟨_, rfl⟩, fin⟩
    | bool b => cases (show x = _ from rd); cases r1; exact PySem.P.repr_of_bool ⟨.str _, H, I.tok _, ⟨_, rfl⟩, by cases b <;> exact fin⟩
    | int i =>
      cases (show x = _ from rd)
      obtain ⟨t, rfl⟩ := r1
      exact PySem.P.repr_of_int (of_decide_eq_true sh) ⟨.str _, H, I.tok _, ⟨_, rfl⟩, fin⟩
    | str z =>
      obtain ⟨rfl, _⟩ := rd
      obtain ⟨t, rfl⟩ := r1
      exact PySem.P.repr_of_str ⟨.str _, H, I.tok _, ⟨_, rfl⟩, fin⟩ len
    | tup ds =>
      obtain ⟨a, vs, ex, _⟩ := id rd
      have := big ex
      subst ex
      cases r1; exact this
    | rol ds =>
      obtain ⟨a, vs, ex, _⟩ := id rd
      have := big ex
      subst ex
      cases r1; exact this
    | ref _ => simp [pure?] at p
    | ty _ => simp [pure?] at p
/-! ### str(i), str(text) -/
def strD (x : D) (h : MH) (Q : KD) : Prop := match x with
  | .int i => i.natAbs.log2 < 1920 ∧ Q (.str (Str.ofString (toString i))) h
  | .str z => Q (.str z) h
  | _ => False
theorem int_len (i : Int) (h : i.natAbs.log2 < 1920) : (Str.ofString (toString i)).length ≤ sizeLine := int_text_fits h
theorem xd_str : CallR X (.type "str") (lowC X.kw (on1 strD)) := callR_1 fun x d h H Q QV rx hH hr hc => by
  cases d <;> try exact hr.elim
  case int i =>
    cases (show x = _ from rx)
    exact ⟨_, call_str_int, i, rfl, hr.1, hc.str hH ⟨int_len i hr.1, okC_of _⟩ hr.2⟩
  case str z =>
    obtain ⟨rfl, ok⟩ := rx
    exact ⟨_, SkE.call_str_str, z, rfl, hc.str hH ok hr⟩
/-! ### max, min of a list -/
def maxLD (x : D) (h : MH) (Q : KD) : Prop := intsK (fun ns => 0 < ns.length ∧ ∀ m, m ∈ ns → (∀ y, y ∈ ns → y ≤ m) → Q (.int m) h) h x
def minLD (x : D) (h : MH) (Q : KD) : Prop := intsK (fun ns => 0 < ns.length ∧ ∀ m, m ∈ ns → (∀ y, y ∈ ns → m ≤ y) → Q (.int m) h) h x
theorem xd_maxL (hc : X.calm = true) : CallR X (.builtin "max") (lowC X.kw (on1 maxLD)) := callR_1 fun x d h H Q QV rx hH hr hcl => by
  obtain ⟨a, ns, rfl, s, p, q⟩ := intsK_rep hH rx hr
  exact ⟨_, cr_max hc, a, ns, rfl, s, p, fun m hm hy => hcl.int hH (q m hm hy)⟩
theorem xd_minL (hc : X.calm = true) : CallR X (.builtin "min") (lowC X.kw (on1 minLD)) := callR_1 fun x d h H Q QV rx hH hr hcl => by
  obtain ⟨a, ns, rfl, s, p, q⟩ := intsK_rep hH rx hr
  exact ⟨_, cr_min hc, a, ns, rfl, s, p, fun m hm hy => hcl.int hH (q m hm hy)⟩
end
end DL
namespace DL
open PySem PySem.Spec PyProof.Rows L2
/-! two dicts of numbers by texts that are one: != says no -/
def isI : D → Bool
  | .int _ => true
  | _ => false
def dicEq (h : MH) (x y : D) (k : Prop) : Prop := ∃ a b ks ls, x = .ref a ∧ y = .ref b ∧ h a = some (.dic ks) ∧ h b = some (.dic ls) ∧ ks ≠ [] ∧ ls ≠ [] ∧ ks.length = ls.length ∧ (∀ p ∈ ks, (scaK p.1).isSome = true) ∧ (∀ p ∈ ls, (scaK p.1).isSome = true) ∧ (∀ p ∈ ks, dget ls p.1 = some p.2 ∧ isI p.2 = true) ∧ k
def neDX : R1 := fun x y h Q => neD x y h Q ∨ dicEq h x y (Q (.bool false) h)
theorem dicK {K : KW} {H : Hp} {a : Addr} {ks : Kvs} (r : RepO K H a (.dic ks)) (ne : ks ≠ []) (s : ∀ p ∈ ks, (scaK p.1).isSome = true) : ∃ kv, H a = some (.dK kv) ∧ RepKs K H ks kv := by
  rcases r with r | ⟨xs, r⟩
  · exact r
  · cases ks with
    | nil => exact absurd rfl ne
    | cons p r' =>
      have h1 := r.tup p (by simp)
      have h2 := s p (by simp)
      cases e : p.1 <;> rw [e] at h1 h2 <;> first | (cases h1; done) | (cases h2; done)
theorem od_neX {X : Cx} (hu : X.A.units + 64 < cLine) : OpR X (compareOp .NotEq) (lowR X.kw neDX) := opR_of fun x y H QV ⟨d, e, h, Q, rx, ry, hH, hr, hc⟩ => by
  rcases hr with hr | ⟨a, b, ks, ls, rfl, rfl, ea, eb, n1, n2, hl, s1, s2, hk, q⟩
  · exact ⟨_, od_ne hu, d, e, h, Q, rx, ry, hH, hr, hc⟩
  · cases (show x = _ from rx)
    cases (show y = _ from ry)
    obtain ⟨kv, eH, r1⟩ := dicK (hH _ _ ea) n1 s1
    obtain ⟨lv, eL, r2⟩ := dicK (hH _ _ eb) n2 s2
    refine ⟨_, op_ne_dictA (by omega), a, b, kv, lv, rfl, rfl, eH, eL, by rw [← Paired.length r1, ← Paired.length r2]; exact hl, fun q hq => ?_, hc.bl hH q⟩
    obtain ⟨i, hi⟩ := List.getElem?_of_mem hq
    obtain ⟨p, hp, e1, e2, e3⟩ := P2.get' r1 hi
    obtain ⟨g1, g2⟩ := hk p (List.mem_of_getElem? hp)
    have := dget_K r2 e1
    rw [g1] at this
    obtain ⟨v, ev, rv⟩ := RO.some_ this rfl
    cases ep : p.2 <;> rw [ep] at g2 <;> first | (cases g2; done) | skip
    rw [ep] at rv e3
    cases (show v = _ from rv)
    have e3 : q.2 = _ := e3
    rw [e3]
    exact ⟨ev, rfl⟩
end DL
namespace DL
open PySem PySem.Spec PyProof.Rows L2
/-! ### zip(tuple, text) -/
def ItzS (K : PySem.W.Frag) (a : Addr) (z : Str) : It :=
  ⟨fun i H => ∃ (xs : List V) (x : V) (c : Nat), SqT K H a xs ∧ xs[i]? = some x ∧ z.cps[i]? = some c,
    fun i H v H' => ∃ T x c, v = .ref T ∧ H T = none ∧ H' = upd H T (.tup [x, .str ⟨#[c]⟩]) ∧ (∀ xs, SqT K H a xs → xs[i]? = some x) ∧ z.cps[i]? = some c,
    fun i H => ∃ xs : List V, SqT K H a xs ∧ (i = xs.length ∨ i = z.cps.size) ∧ i ≤ xs.length ∧ i ≤ z.cps.size⟩
theorem turn_zipTS {P : Program} {w : World} {K : PySem.W.Frag} {elts : List Expr} {kk : Nat} {tpos : Pos} {a q TI TO i1 i2 : Addr} {z : Str} {t : Tok} (D : ZipSep2 q TI TO i1 i2 [i1, a] [i2]) :
    Turn P w K (.Tuple elts kk tpos) (ItzS K a z) [q, TI, TO, i1, i2] q (fun i h => IsZip h q TI TO .none ∧ IsTupOf2 h TI (.ref i1) (.ref i2) ∧ (∃ x y, IsTupOf2 h TO x y) ∧ h.IsTupleIter i1 a i ∧ h.IsStrIter i2 (strIterType z) z t i) where
  mem := by simp
  obj := fun i h st c hc => by
    obtain ⟨hz, hTI, ⟨x, y, hTO⟩, ⟨o1, e1, _, d1⟩, ⟨o2, e2, _, d2⟩⟩ := st
    have e' : c = q ∨ c = TI ∨ c = TO ∨ c = i1 ∨ c = i2 := by simpa using hc
    rcases e' with rfl | rfl | rfl | rfl | rfl
    · exact ⟨_, hz, fun v e => nomatch e⟩
    · exact ⟨_, hTI, fun v e => nomatch e⟩
    · exact ⟨_, hTO, fun v e => nomatch e⟩
    · exact ⟨o1, e1, fun v e => by rw [d1] at e; cases e⟩
    · exact ⟨o2, e2, fun v e => by rw [d2] at e; cases e⟩
  keep := fun i h h' st k => by
    obtain ⟨hz, hTI, ⟨x, y, hTO⟩, h1, ⟨o2, e2, r2⟩⟩ := st
    exact ⟨k q (by simp) _ hz, k TI (by simp) _ hTI, ⟨x, y, k TO (by simp) _ hTO⟩, h1.at fun o e => k i1 (by simp) o e, ⟨o2, k i2 (by simp) o2 e2, r2⟩⟩
  item := by
    intro X hP hw hK hc i pins s σ H E I hf st hg
    subst hP hw hK
    obtain ⟨hz, hTI, ⟨x0, y0, hTO⟩, h1, h2⟩ := st
    obtain ⟨xs, x, c, hqx, hx, hcx⟩ := hg
    obtain ⟨its, rv, p, _⟩ := I.tuple hqx
    obtain ⟨u, hu, ru⟩ := rv.get hx
    have T : s.heap.IsTuple a its.toArray := p
    have hd : X.A.in1.handled = none := I.ok.hd hc
    have ai : a ≠ i1 := fun e => by
      obtain ⟨o, e1, c1, _⟩ := T
      obtain ⟨o2, e2, c2, _⟩ := h1
      subst e; rw [e1] at e2; cases e2; rw [c1] at c2; exact absurd (Value.type.inj c2) (by decide)
    have lt1 : i < its.toArray.size := by have := (List.getElem?_eq_some_iff.mp hu).1; simpa using this
    have lt2 : i < z.cps.size := (Array.getElem?_eq_some_iff.mp hcx).1
    have hzl : q < s.heap.objs.size := Heap.lt_size hz
    refine wpAny_pyNext_zipD2_item D (Draws.tuple hd i1 a ai its.toArray) (Draws.text hd i2 z t) hz hTI hTO ⟨h1, T⟩ h2 lt1 lt2 fun x1 x2 h' tk p1 p2 z' TO' s1' s2' hT hsz hk => ?_
    have ex : x1 = u := by
      have p1 : its.toArray[i]? = some x1 := p1
      rw [List.getElem?_toArray, hu] at p1
      exact (Option.some.inj p1).symm
    obtain ⟨c', u2, hc2, ex2⟩ := p2
    rw [hcx] at hc2
    cases hc2
    subst ex ex2
    refine ⟨_, rfl, wpAny_letOwnedTupleGo_zip (s := { s with heap := h', toks := tk }) z' fun h'' z'' sb => ?_⟩
    have hT2 : h''.get? s.heap.objs.size = some { cls := .type "tuple", data := .seq #[x1, .str ⟨#[c]⟩ u2] } := (sb.2 _ (Nat.ne_of_gt hzl)).trans hT
    have I1 : Inv X pins σ (upd H s.heap.objs.size (.tup [x, .str ⟨#[c]⟩])) { s with heap := h'', toks := tk } :=
      I.turnedNew (ch := [q, TI, TO, i1, i2]) (fun b o hb e => (sb.2 b (fun w => hb (by simp [w]))).trans (hk b o (fun w => hb (by simp [w])) (fun w => hb (by simp [w])) (fun w => hb (by simp [w])) (fun w => hb (by simp [w])) e)) hf (Nat.le_refl _)
        ⟨by show 2 ≤ sizeLine; decide, [x1, .str ⟨#[c]⟩ u2], .cons ru (.cons ⟨_, rfl⟩ .nil), ⟨_, hT2, rfl, _, rfl⟩⟩
    refine ⟨.ref s.heap.objs.size, _, I1, rfl, ⟨_, x, c, rfl, I.hok.fresh (Nat.le_refl _), rfl, fun l hl => by rw [I.tuple_inj hl hqx]; exact hx, hcx⟩, ⟨z'', ?_, ⟨x1, .str ⟨#[c]⟩ u2, ?_⟩, ?_, ?_⟩, fun b hb => ?_⟩
    · exact (sb.2 _ D.TIz).trans (hk _ _ D.TIz D.TITO D.TIi1 D.TIi2 hTI)
    · exact (sb.2 _ D.TOz).trans TO'
    · exact s1'.1.at fun o e => (sb.2 _ (Ne.symm D.zi1)).trans e
    · obtain ⟨o2, e2, r2⟩ := s2'
      exact ⟨o2, (sb.2 _ (Ne.symm D.zi2)).trans e2, r2⟩
    · have hlt : b < s.heap.objs.size := by
        have e' : b = q ∨ b = TI ∨ b = TO ∨ b = i1 ∨ b = i2 := by simpa using hb
        rcases e' with rfl | rfl | rfl | rfl | rfl
        · exact hzl
        · exact Heap.lt_size hTI
        · exact Heap.lt_size hTO
        · obtain ⟨_, e1, _⟩ := h1; exact Heap.lt_size e1
        · obtain ⟨_, e2, _⟩ := h2; exact Heap.lt_size e2
      rw [upd_ne (Nat.ne_of_lt hlt)]
      exact (hf b hb).1
  done := by
    intro X hP hw hK hc i pins s σ H E I hf st hg
    subst hP hw hK
    obtain ⟨hz, hTI, ⟨x0, y0, hTO⟩, h1, h2⟩ := st
    obtain ⟨xs, hqx, hend, le1, le2⟩ := hg
    obtain ⟨its, rv, p, _⟩ := I.tuple hqx
    have T : s.heap.IsTuple a its.toArray := p
    have hd : X.A.in1.handled = none := I.ok.hd hc
    have ai : a ≠ i1 := fun e => by
      obtain ⟨o, e1, c1, _⟩ := T
      obtain ⟨o2, e2, c2, _⟩ := h1
      subst e; rw [e1] at e2; cases e2; rw [c1] at c2; exact absurd (Value.type.inj c2) (by decide)
    have en : its.toArray.size = xs.length := by rw [List.size_toArray]; exact rv.length.symm
    refine wpAny_pyNext_zipD2_end D (Draws.tuple hd i1 a ai its.toArray) (Draws.text hd i2 z t) hz hTI hTO ⟨h1, T⟩ h2 (by omega) le2 (by rw [en]; exact hend) fun h' tk hk => ⟨rfl, ?_⟩
    exact I.turnedL (ch := [q, TI, TO, i1, i2]) (fun b o hb e => hk b o (fun w => hb (by simp [w])) (fun w => hb (by simp [w])) (fun w => hb (by simp [w])) (fun w => hb (by simp [w])) e) hf
  self := fun A i s Q E st h => wpAny_pyIter_zip st.1 h
def iZipS (K : PySem.W.Frag) (ta : TA) : TI := fun σ H R => ta σ H fun vs H1 => ∃ a xs z, vs = [.ref a, .str z] ∧ SqT K H1 a xs ∧ R (ItzS K a z) H1
theorem pi_zipS {X : Cx} {e e2 : Expr} {ta : TA} {p pos tpos : Pos} {elts : List Expr} {kk : Nat} (hg : Gl X "zip") (hm : X.mg "zip" = none) (ha : PA X [e, e2] ta)
    (hs : starEach [e, e2] X.env = (false, eval e X.env) :: starEach [e2] X.env := by rfl) (hpl : (backTo pos (starEach [e2] X.env)).any (·.1) = false := by rfl) :
    PI X (.Tuple elts kk tpos) (.Call (.Name "zip" p) [e, e2] [] pos) (iZipS X.K ta) := by
  refine ⟨fun pins s σ H R I h => ?_⟩
  refine Call_ (ld_blt I hg hm PyProof.Rows.boot_zip (PyProof.Rows.callWith_type1 (thn (ha.run pos pins s σ H _ I h) fun us s1 ⟨vs, H1, I1, r1, a, xs, z, ex, hqx, q⟩ => ?_) hs hpl))
  subst ex
  cases r1 with
  | cons r rr =>
    cases rr with
    | cons r' rr =>
      cases rr
      cases r
      obtain ⟨t, rfl⟩ := r'
      obtain ⟨its, rv, p1, _⟩ := I1.tuple hqx
      obtain ⟨o1, ho1, _⟩ := id p1
      have la : a < s1.heap.objs.size := Heap.lt_size ho1
      refine zip_begins2 (begins_tuple a its.toArray) (begins_text z t) (show s1.heap.IsTuple a its.toArray from p1) trivial fun h' hz hTI hTO h1 h2 hsz hk => wpAny_pyIter_zip hz ?_
      have I2 : Inv X pins σ H1 { s1 with heap := h' } := I1.kept (t' := s1.toks) hk
      refine ⟨s1.heap.objs.size + 4, [s1.heap.objs.size + 4, s1.heap.objs.size + 2, s1.heap.objs.size + 3, s1.heap.objs.size, s1.heap.objs.size + 1], _, _, H1, rfl, I2, turn_zipTS (t := t) (zip_sep2 (fp1 := [a]) (fp2 := []) (by simpa using la) (by simp)), ⟨hz, hTI, ⟨_, _, hTO⟩, ⟨_, h1, rfl, rfl⟩, ⟨_, h2, rfl, rfl⟩⟩, fun c hc => ?_, q⟩
      have hle : s1.heap.objs.size ≤ c := by
        have e' : c = s1.heap.objs.size + 4 ∨ c = s1.heap.objs.size + 2 ∨ c = s1.heap.objs.size + 3 ∨ c = s1.heap.objs.size ∨ c = s1.heap.objs.size + 1 := by simpa using hc
        rcases e' with e | e | e | e | e <;> rw [e] <;> first | exact Nat.le_add_right _ _ | exact Nat.le_refl _
      exact I1.fpOk hle (I1.hok.fresh hle)
def zsK (ds : List D) (h : MH) (Q : List D → (MH → Prop) → MH → Prop) : Prop := match ds with
  | [.tup xs, .str z] => Q (zpD xs (signs z)) (fun _ => True) h
  | _ => False
def iZs (ta : A1) : I1 := fun σ h Q => ta σ h fun ds h1 => zsK ds h1 Q
theorem di_zipS {X : Cx} {e e2 : Expr} {ta : A1} {p pos tpos : Pos} {elts : List Expr} {kk : Nat} (hg : Gl X "zip") (hm : X.mg "zip" = none) (ha : DA X [e, e2] ta)
    (hs : starEach [e, e2] X.env = (false, eval e X.env) :: starEach [e2] X.env := by rfl) (hpl : (backTo pos (starEach [e2] X.env)).any (·.1) = false := by rfl) :
    DI X (.Tuple elts kk tpos) (.Call (.Name "zip" p) [e, e2] [] pos) (iZs ta) :=
  weakI (pi_zipS hg hm ha hs hpl) fun σV H R ⟨σ, h, Q, hE, hH, ht, hc⟩ => ⟨σ, h, _, hE, hH, ht, fun ds h' vs H' s' r' rv q => by
    have q : zsK ds h' Q := q
    unfold zsK at q
    split at q
    · rename_i xs z _
      obtain ⟨v, r, rfl, r1, v2, r2, rfl, r3, r4⟩ := rv
      cases (show r2 = [] from r4)
      obtain ⟨a, us, rfl, sq, ru⟩ := r1
      obtain ⟨rfl, ok⟩ := r3
      have len : (signs z).length = z.cps.size := by unfold signs; rw [List.length_map, Array.length_toList]
      have sg : ∀ (i c : Nat), z.cps[i]? = some c → (signs z)[i]? = some (.str ⟨#[c]⟩) := fun i c e => by unfold signs; rw [List.getElem?_map, Array.getElem?_toList, e]; rfl
      refine ⟨a, us, z, rfl, sq, hc _ _ _ _ _ s' r' ⟨fun h2 H2 i q2 rh _ hi => ?_, fun h2 H2 i v H3 q2 rh _ _ y => ?_, fun h2 H2 q2 rh _ => ?_⟩ q⟩
      · rw [zpD_len, len] at hi
        have s2 := (Stp.mo r' q2).t _ _ sq
        have lu := ru.length
        exact ⟨us, us[i]'(by omega), z.cps[i]'(by omega), s2, List.getElem?_eq_getElem _, by simp⟩
      · obtain ⟨T, x, c, rfl, nT, rfl, hx, hcx⟩ := y
        have s2 := (Stp.mo r' q2).t _ _ sq
        have r2 := RepVs.mono (Stp.mo r' q2) _ ru
        obtain ⟨d, ed, rd⟩ := P2.get' r2.pair (hx us s2)
        have okc : okS ⟨#[c]⟩ := by
          have := ok.2
          refine ⟨by show 1 ≤ sizeLine; decide, ?_⟩
          unfold PyData.strOk at this ⊢
          rw [Array.all_eq_true] at this
          obtain ⟨hl, e⟩ := Array.getElem?_eq_some_iff.mp hcx
          have h2 := this i hl
          rw [e] at h2
          simpa using h2
        obtain ⟨p1, p2, p3⟩ := pair_rep (e := .str ⟨#[c]⟩) (y := .str ⟨#[c]⟩) rh nT rd ⟨rfl, okc⟩
        exact ⟨_, zpD_get _ _ _ _ _ ed (sg i c hcx), p1, p2, p3⟩
      · have s2 := (Stp.mo r' q2).t _ _ sq
        refine ⟨us, s2, ?_, ?_, ?_⟩ <;> rw [zpD_len, len, ru.length] <;> omega
    · exact q.elim⟩
end DL
namespace DL
open PySem PySem.Spec PyProof.Rows L2
/-! sorted(x): a list, a tuple, a dict with scalar keys; things of one kind, any number -/
def leK (x y : D) : Bool := !PySem.W.dataLt (pd y) (pd x)
def alikeB (ds : List D) : Bool := ds.all fun x => ds.all fun y => PySem.W.alike (pd x) (pd y)
def isTup1 : D → Bool
  | .tup (_ :: _) => true
  | _ => false
def notTN : D → Bool
  | .tup _ => false
  | .none => false
  | _ => true
def sortsB (ds : List D) : Bool := ds.all isTup1 || ds.all notTN
def sortK (ds : List D) (h : MH) (Q : KD) : Prop := pures? 50 ds = true ∧ alikeB ds = true ∧ sortsB ds = true ∧ ds.length ≤ sizeLine ∧ ∀ (ys : List D) (p : Addr), ys.Perm ds → ys.Pairwise (fun a b => leK a b = true) → h p = none → Q (.ref p) (up h p (.lst ys))
def sortO (h : MH) (Q : KD) : Option MO → Prop
  | some (.lst ds) => sortK ds h Q
  | some (.dic kvs) => kvs.all (fun p => (scaK p.1).isSome) = true ∧ sortK (kvs.map (·.1)) h Q
  | _ => False
def sortedD (x : D) (h : MH) (Q : KD) : Prop := match x with
  | .tup ds => sortK ds h Q
  | .rol ds => sortK ds h Q
  | .ref a => sortO h Q (h a)
  | _ => False
theorem mem_pds {x : PyData} : ∀ {ds : List D}, x ∈ pds ds → ∃ d, d ∈ ds ∧ x = pd d
  | [], h => by simp [pds] at h
  | d :: ds, h => by
    simp only [pds, List.mem_cons] at h
    rcases h with rfl | h
    · exact ⟨d, by simp, rfl⟩
    · obtain ⟨e, h1, h2⟩ := mem_pds h
      exact ⟨e, by simp [h1], h2⟩
theorem pd_mem {d : D} : ∀ {ds : List D}, d ∈ ds → pd d ∈ pds ds
  | [], h => by simp at h
  | e :: ds, h => by
    simp only [pds, List.mem_cons]
    rcases List.mem_cons.mp h with rfl | h
    · exact .inl rfl
    · exact .inr (pd_mem h)
section
variable {ds : List D}
theorem allAlike (h : alikeB ds = true) : PySem.W.AllAlike (pds ds) := by
  intro x hx y hy
  obtain ⟨d, hd, rfl⟩ := mem_pds hx
  obtain ⟨e, he, rfl⟩ := mem_pds hy
  unfold alikeB at h
  rw [List.all_eq_true] at h
  have := h d hd
  rw [List.all_eq_true] at this
  exact this e he
theorem sortable {n : Nat} (pu : pures? n ds = true) (h : sortsB ds = true) : PySem.W.Sortable (pds ds) := by
  unfold sortsB at h
  rw [Bool.or_eq_true, List.all_eq_true, List.all_eq_true] at h
  rcases h with h | h
  · left
    intro x hx
    obtain ⟨d, hd, rfl⟩ := mem_pds hx
    have := h d hd
    cases d with
    | tup xs =>
      cases xs with
      | nil => cases this
      | cons y r => exact ⟨pd y, pds r, by simp [pd, pds]⟩
    | _ => cases this
  · right
    intro x hx
    obtain ⟨d, hd, rfl⟩ := mem_pds hx
    have := h d hd
    refine ⟨?_, ?_⟩
    · cases d with
      | none => cases this
      | tup xs => cases this
      | ref _ => rw [pures_all, List.all_eq_true] at pu; have := pu _ hd; simp [pure?] at this
      | ty _ => rw [pures_all, List.all_eq_true] at pu; have := pu _ hd; simp [pure?] at this
      | _ => intro e; simp [pd] at e
    · intro xs
      cases d with
      | none => cases this
      | tup xs => cases this
      | _ => intro e; simp [pd] at e
end
theorem pures_up : ∀ {n m : Nat}, n ≤ m → ∀ ds : List D, pures? n ds = true → pures? m ds = true := by
  have one : ∀ (n m : Nat), n ≤ m → ∀ x : D, pure? n x = true → pure? m x = true := by
    intro n
    induction n with
    | zero =>
      intro m _ x h
      cases x <;> simp_all [pure?]
    | succ n ih =>
      intro m hm x h
      cases m with
      | zero => omega
      | succ m =>
        cases x with
        | tup xs =>
          simp only [pure?, pures_all, List.all_eq_true] at h ⊢
          exact fun y hy => ih m (by omega) y (h y hy)
        | rol xs =>
          simp only [pure?, pures_all, List.all_eq_true] at h ⊢
          exact fun y hy => ih m (by omega) y (h y hy)
        | _ => simp_all [pure?]
  intro n m h ds p
  rw [pures_all, List.all_eq_true] at p ⊢
  exact fun x hx => one n m h x (p x hx)
section
variable {X : Cx} {pins : List (Addr × Obj)} {σ : L2.St} {H : Hp}
theorem each_of {K : KW} {H : Hp} : ∀ {ds : List D} {vs : List V} {us : List Value}, RepVs K H ds vs → Vals vs us → PySem.W.EachIs (fun u d => ∃ v, RelV v u ∧ RepV K H d v) us ds
  | [], _, _, r, q => by
    cases (show _ = [] from r)
    cases q; exact .nil
  | d :: ds, _, _, r, q => by
    obtain ⟨v, w, rfl, r1, r2⟩ := r
    cases q with
    | cons a b => exact .cons ⟨v, a, r1⟩ (each_of r2 b)
theorem each_back {K : KW} {H : Hp} : ∀ {ds : List D} {us : List Value}, PySem.W.EachIs (fun u d => ∃ v, RelV v u ∧ RepV K H d v) us ds → ∃ vs, RepVs K H ds vs ∧ Vals vs us
  | _, _, .nil => ⟨[], rfl, .nil⟩
  | _, _, .cons ⟨v, a, b⟩ t => by
    obtain ⟨vs, h1, h2⟩ := each_back t
    exact ⟨v :: vs, .cons b h1, .cons a h2⟩
theorem each_reads {s : Shared} (I : Inv X pins σ H s) {n : Nat} : ∀ {ds : List D} {vs : List V} {us : List Value}, pures? n ds = true → RepVs X.kw H ds vs → Vals vs us → PySem.W.EachIs (fun u d => ∃ as, Reads s.heap u (pd d) as) us ds
  | [], _, _, _, r, q => by
    cases (show _ = [] from r)
    cases q; exact .nil
  | d :: ds, _, _, p, r, q => by
    obtain ⟨v, w, rfl, r1, r2⟩ := r
    have p' : pure? n d = true ∧ pures? n ds = true := by simpa [pures?] using p
    cases q with
    | cons a b => exact .cons (Dp.reads I (pd d) v _ (pd_dp n d v p'.1 r1).1 a) (each_reads I p'.2 r2 b)
theorem each_pds {R : Value → PyData → Prop} : ∀ {us : List Value} {ds : List D}, PySem.W.EachIs (fun u d => R u (pd d)) us ds → PySem.W.EachIs R us (pds ds)
  | _, _, .nil => by simp only [pds]; exact .nil
  | _, _, .cons a t => by simp only [pds]; exact .cons a (each_pds t)
theorem each_mem {R R' : Value → D → Prop} : ∀ {us : List Value} {ds : List D}, PySem.W.EachIs R us ds → (∀ u d, d ∈ ds → R u d → R' u d) → PySem.W.EachIs R' us ds
  | _, _, .nil, _ => .nil
  | _, _, .cons a t, h => .cons (h _ _ (by simp) a) (each_mem t fun u d hd => h u d (by simp [hd]))
/-- what is collected is sorted -/
theorem sort_from {h : MH} {ds : List D} {u : Value} {vs : List V} {s : Shared} {Q : KD} {QV : VK} (hu : X.A.units + 64 < cLine) (I : Inv X pins σ H s) (hH : RepH X.kw h H) (r : RepVs X.kw H ds vs) (k : sortK ds h Q) (hc : Cl X.kw h H Q QV)
    (hcol : ∀ R : List Value → Shared → Prop, (∀ (h' : Heap) (tk : Nat) (us : List Value), (∀ b o, s.heap.get? b = some o → h'.get? b = some o) → Vals vs us → R us { s with heap := h', toks := tk }) → wpAny (model X.prog X.w) X.A.in1 (collect u) R X.xe s) :
    wpAny (model X.prog X.w) X.A (call (.builtin "sorted") [u]) (EP X pins σ QV) X.xe s := by
  obtain ⟨pu, al, so, hz, k⟩ := k
  refine Calls.call_function_entry PyProof.Rows.kind_sorted PyProof.Rows.plain_sorted PyProof.Rows.entry_sorted (PyProof.Rows.args_sorted1 _) ?_
  unfold Builtin.«sorted»
  refine wpAny_bind (m := checkCount "sorted" 1 1 _) (wpAny_pure ?_)
  refine wpAny_bind (hcol _ fun h' tk us keep hv => ?_)
  have I1 : Inv X pins σ H { s with heap := h', toks := tk } := I.kept keep
  have hlen : us.length = ds.length := by rw [← hv.length, r.length]
  refine wpAny_bind (wpAny_newList ?_ (by rw [hlen]; exact hz))
  have hoL : (h'.push (seqObj "list" us.toArray 0)).get? h'.objs.size = some (seqObj "list" us.toArray 0) := Heap.get?_push_size _ rfl
  show wpAny _ _ _ _ _ { s with heap := h'.push (seqObj "list" us.toArray 0), toks := tk }
  have keep2 : ∀ b o, h'.get? b = some o → (PySem.W.sortingHeap (h'.push (seqObj "list" us.toArray 0)) h'.objs.size us).get? b = some o := fun b o e => by
    exact PySem.W.sortingHeap_old (Nat.ne_of_lt (Heap.lt_size e)) (Heap.get?_push_of_some _ e)
  have I2 : Inv X pins σ H { s with heap := PySem.W.sortingHeap (h'.push (seqObj "list" us.toArray 0)) h'.objs.size us, toks := tk } := I.kept (fun b o e => keep2 b o (keep b o e))
  have rd : PySem.W.EachIs (fun v d => ∃ as, Reads (PySem.W.sortingHeap (h'.push (seqObj "list" us.toArray 0)) h'.objs.size us) v d as) us (pds ds) := each_pds (each_reads I2 pu r hv)
  have S : PySem.W.SortsAt X.prog X.w X.A.in1.in1 { s with heap := PySem.W.sortingHeap (h'.push (seqObj "list" us.toArray 0)) h'.objs.size us, toks := tk } (PySem.W.dataKind (PySem.W.sortingHeap (h'.push (seqObj "list" us.toArray 0)) h'.objs.size us) (pds ds)) us :=
    PySem.W.SortsAt.data rd (allAlike al) (sortable pu so) fun d hd => by
      obtain ⟨e, he, rfl⟩ := mem_pds hd
      have hp := pu
      rw [pures_all, List.all_eq_true] at hp
      have := pd_depth 50 e (hp e he)
      simp only [Around.in1_units]
      omega
  have ev := PySem.W.sortVals_each (κ := PySem.W.dataKind (PySem.W.sortingHeap (h'.push (seqObj "list" us.toArray 0)) h'.objs.size us) (pds ds)) (rev := false) (fun d : D => PySem.W.keyToks (pd d)) (each_of r hv) (ks := us) ?_
  · obtain ⟨vs', r', v'⟩ := each_back ev
    refine wpAny_bind (wpAny_holding (wpAny_call_entry PyProof.Rows.slot_list_sort ⟨_, hoL, rfl⟩ PyProof.Rows.entry_list_sort
      (PySem.W.list_sort_vals (s := { s with heap := h'.push (seqObj "list" us.toArray 0), toks := tk }) hoL S (by rw [hlen]; exact hz) ⟨_, rfl, ?_⟩) (PyProof.Rows.args_list_sort _)))
    obtain ⟨e', he'⟩ := PyProof.Rows.sortedHeap_at (vs := us) (out := (PySem.W.sortVals (PySem.W.dataKind (PySem.W.sortingHeap (h'.push (seqObj "list" us.toArray 0)) h'.objs.size us) (pds ds)) false us us).toArray) hoL
    have np : H h'.objs.size = none := I1.hok.fresh (Nat.le_refl _)
    have perm : (ds.mergeSort (PySem.W.sortLe (PySem.W.dataKind (PySem.W.sortingHeap (h'.push (seqObj "list" us.toArray 0)) h'.objs.size us) (pds ds)).toKeyOrd false fun d : D => PySem.W.keyToks (pd d))).Perm ds := List.mergeSort_perm _ _
    have srt := PySem.W.sort_pairwise (PySem.W.sortLe_total (PySem.W.dataKind (PySem.W.sortingHeap (h'.push (seqObj "list" us.toArray 0)) h'.objs.size us) (pds ds)).toKeyOrd false fun d : D => PySem.W.keyToks (pd d)) ds
    have hlen2 : vs'.length ≤ sizeLine := by rw [← r'.length, perm.length_eq]; exact hz
    refine wpAny_pure ⟨_, rfl, .ref h'.objs.size, upd H h'.objs.size (.lst vs'), I1.laid (t' := tk) (fun b u e => ?_) (Nat.le_refl _)
      (show ObjOk X.prog X.w _ _ _ (.lst vs') from ⟨hlen2, _, e', v', he'⟩), rfl, ?_⟩
    · have hb : b < h'.objs.size := Heap.lt_size e
      rw [PyProof.Rows.sortedHeap_old (Nat.ne_of_lt hb) (by rw [size_push']; exact Nat.lt_succ_of_lt hb)]
      exact Heap.get?_push_of_some _ e
    · exact hc.new hH np r' (k _ _ perm srt (hH.nofresh np))
  · exact each_mem (each_reads I2 pu r hv) fun u d hd ⟨as, q⟩ => PySem.W.dataKind_some (allAlike al) (pd_mem hd) q
theorem collect_tup {prog : Program} {w : World} {A : Around} {E : Value → Shared → Prop} {s : Shared} {l : Addr} {vs : List Value} {Q : List Value → Shared → Prop} (hl : s.heap.IsTuple l vs.toArray)
    (h : Q vs { s with heap := (s.heap.push (seqObj "list" #[] 0)).update s.heap.objs.size (Obj.mapSeq (· ++ vs.toArray)) }) (hsz : vs.length ≤ sizeLine) :
    wpAny (model prog w) A (collect (.ref l)) Q E s := by
  obtain ⟨o, ho, hc, n, hd⟩ := id hl
  unfold collect
  refine wpAny_bind (wpAny_runValue (codeAny_builtin entry_proto_collect' ?_))
  show wpAny _ _ (do again (.builtin "list.__iadd__" ⟨[← newList [], .ref l], []⟩)) _ _ s
  refine wpAny_bind (wpAny_newList (wpAny_pure ⟨Code.quiet_builtin _ (by decide +kernel), codeAny_builtin entry_list_iadd' ?_⟩))
  show wpAny _ _ (Builtin.List.listExtendWith (.ref s.heap.objs.size) (.ref l) (.ref s.heap.objs.size)) _ _ { s with heap := s.heap.push (seqObj "list" #[] 0) }
  unfold Builtin.List.listExtendWith
  have ho' : (s.heap.push (seqObj "list" #[] 0)).get? l = some o := Heap.get?_push_of_some _ ho
  refine wpAny_bind (wpAny_typeOf (T := "tuple") ⟨o, ho', hc⟩ ?_)
  have ht : (Value.type "tuple" == Value.type "tuple") = true := by rfl
  rw [if_pos (by rw [ht]; simp)]
  refine wpAny_bind (listItems_at ho' hd ?_)
  refine wpAny_bind (listItems_at (xs := #[]) (n := 0) (Heap.get?_push_size _ rfl) rfl ?_)
  rw [if_neg (by simp)]
  refine wpAny_bind (listUpdate_at (xs := #[]) (n := 0) (Heap.get?_push_size _ rfl) rfl ?_ (Nat.zero_le _) (by show (#[] ++ vs.toArray).size ≤ sizeLine + 1; simp only [Array.size_append, List.size_toArray, List.length_nil]; omega))
  refine wpAny_pure ?_
  show wpAny (model prog w) A (do
      let o ← load s.heap.objs.size
      match o.data with
      | .seq xs _ => pure xs.toList
      | _ => unsupported "internal:collect") Q E { s with heap := (s.heap.push (seqObj "list" #[] 0)).update s.heap.objs.size (Obj.mapSeq (· ++ vs.toArray)) }
  refine wpAny_bind (wpAny_load (get?_update_seq (Heap.get?_push_size _ rfl) _) ?_)
  show wpAny _ _ (pure ((#[] : Array Value) ++ vs.toArray).toList) Q E _
  rw [show ((#[] : Array Value) ++ vs.toArray).toList = vs by simp]
  exact wpAny_pure h
theorem keep_coll {h : Heap} {us : List Value} {b : Addr} {o : Obj} (e : h.get? b = some o) : ((h.push (seqObj "list" #[] 0)).update h.objs.size (Obj.mapSeq (· ++ us.toArray))).get? b = some o := by
  rw [Heap.get?_update_ne _ _ _ _ (Nat.ne_of_lt (Heap.lt_size e))]
  exact Heap.get?_push_of_some _ e
theorem keys_vals {ks : List L2.Key} {acc : List Value} (hl : acc.length = ks.length) (h : ∀ (j : Nat) (v : Value), acc[j]? = some v → ∃ k, ks[j]? = some k ∧ keyIs k v = true) : Vals (ks.map kV) acc := by
  induction ks generalizing acc with
  | nil =>
    have : acc = [] := List.eq_nil_of_length_eq_zero hl
    subst this; exact .nil
  | cons p r ih =>
    cases acc with
    | nil => simp at hl
    | cons v t =>
      refine .cons ?_ (ih (by simpa using hl) fun j u e => by simpa using h (j + 1) u (by simpa using e))
      obtain ⟨k, e1, e2⟩ := h 0 v rfl
      have e1 : p = k := by simpa using e1
      subst e1
      rcases keyIs_shape e2 with ⟨i, t, ek, ev⟩ | ⟨z, t, ek, ev⟩
      · cases ek; exact ⟨t, ev⟩
      · cases ek; exact ⟨t, ev⟩
theorem reps_keys {K : KW} {H : Hp} {kvs : Kvs} {kv : List (L2.Key × V)} (r : RepKs K H kvs kv) : RepVs K H (kvs.map (·.1)) ((kv.map (·.1)).map kV) := by
  induction r with
  | nil => exact .nil
  | cons h _ ih => exact .cons h.2.1 ih
theorem xd_sorted (hu : X.A.units + 64 < cLine) (hcalm : X.calm = true) : CallR X (.builtin "sorted") (lowC X.kw (on1 sortedD)) := by
  intro pins s σ H vs us QV I r0 ⟨ds0, h, Q, rv0, hH, hr, hc⟩
  obtain ⟨d, rfl, hr⟩ := on1_inv hr
  obtain ⟨x, rfl, rx⟩ := rep1 rv0
  obtain ⟨u, eu, ru⟩ := vals1 r0
  subst eu
  have lst : ∀ {a : Addr} {vs : List V} {ds : List D}, x = .ref a → SqL X.K H a vs → RepVs X.kw H ds vs → sortK ds h Q → wpAny (model X.prog X.w) X.A (call (.builtin "sorted") [u]) (EP X pins σ QV) X.xe s := by
    rintro a vs ds rfl sq rs k
    cases ru
    obtain ⟨its, rv, tp, hz⟩ := I.list sq
    exact sort_from hu I hH rs k hc fun R q => PyProof.Rows.collect_list tp.isList (q _ _ its (fun b o e => keep_coll e) rv) (by rw [← rv.length]; exact hz)
  cases d with
  | tup ds =>
    obtain ⟨a, vs, rfl, sq, rs⟩ := rx
    cases ru
    obtain ⟨its, rv, tp, hz⟩ := I.tuple sq
    exact sort_from hu I hH rs hr hc fun R q => collect_tup tp (q _ _ its (fun b o e => keep_coll e) rv) (by rw [← rv.length]; exact hz)
  | rol ds =>
    obtain ⟨a, vs, ex, sq, rs⟩ := rx
    exact lst ex sq.sq rs hr
  | ref a =>
    have ex : x = .ref a := rx
    have hr : sortO h Q (h a) := hr
    cases q : h a with
    | none => rw [q] at hr; exact hr.elim
    | some o =>
      rw [q] at hr
      cases o with
      | lst ds =>
        obtain ⟨vs, eH, rs⟩ := hH a _ q
        exact lst ex (SqL.of eH) rs hr
      | dic kvs =>
        obtain ⟨hall, hk⟩ := hr
        subst ex
        cases ru
        obtain ⟨K⟩ := as_K I (hH a _ q) hall
        obtain ⟨z, lo, vs0, rel, dd⟩ := dk_of (K.to_ s I).hok upd_same
        obtain ⟨ep, hat⟩ := dd.dictAt
        have hl : vs0.length = K.kv.length := by
          have e := congrArg List.length rel.keys
          rw [List.length_map, List.length_map] at e
          exact e.symm
        have h16 : vs0.length ≤ sizeLine := by rw [hl]; exact z
        refine sort_from hu I hH (reps_keys K.rep) hk hc fun R qq => PySem.W.kdu_collect (A := X.A.in1) (PySem.W.kdl_dict (knd := mixKind X.prog X.w) (kvs := vs0) (ep := ep) lo) (I.ok.hd hcalm) hat h16 fun h' tk acc hk hacc => qq h' tk acc.toList hk ?_
        rw [rel.keys]
        refine keys_vals (by rw [Array.length_toList, hacc.1, List.length_map]) fun j v e => ?_
        obtain ⟨k, x, e1, e2⟩ := hacc.2 j v (by rw [← Array.getElem?_toList]; exact e)
        exact ⟨k, by rw [List.getElem?_map, e1]; rfl, e2⟩
      | ins _ _ => exact hr.elim
  | _ => exact hr.elim
end
end DL
namespace DL
open PySem PySem.Spec PyProof.Rows L2
/-! xs[::-1] -/
section
variable {prog : Program} {w : World} {A : Around} {E : Value → Shared → Prop} {s : Shared}
theorem adjust_rev (n : Nat) : Builtin.Slice.sliceAdjust none none (-1) (n : Int) = ((n : Int) - 1, -1) := by
  unfold Builtin.Slice.sliceAdjust
  simp
theorem places_rev (n : Nat) : Builtin.Slice.slicePlaces ((n : Int) - 1) (-1) (-1) = n := by
  unfold Builtin.Slice.slicePlaces
  rw [if_neg (show ¬ ((-1 : Int) > 0) by decide)]
  by_cases h : ((n : Int) - 1) > -1
  · rw [if_pos h, show (-(-1) : Int) = 1 by decide, Int.ediv_one]; omega
  · rw [if_neg h]; omega
theorem sliceApplied_rev {sl : Addr} {vl vu vk : Value} {n : Nat} {Q : Int × Int × Nat → Shared → Prop} (hs : s.heap.IsSliceOf sl vl vu vk) (pl : IsPart vl none) (pu : IsPart vu none) (pk : IsPart vk (some (-1)))
    (h : Q ((n : Int) - 1, -1, n) s) : wpAny (model prog w) A (Builtin.Slice.sliceApplied (.ref sl) (pure (n : Int))) Q E s := by
  obtain ⟨os, hos, hcs, hds⟩ := id hs
  unfold Builtin.Slice.sliceApplied Builtin.Slice.sliceFields
  refine wpAny_bind (wpAny_bind (wpAny_field hos hds (x := vl) rfl (wpAny_bind (wpAny_field hos hds (x := vu) rfl (wpAny_bind (wpAny_field hos hds (x := vk) rfl (wpAny_pure ?_)))))))
  refine wpAny_bind (HT.slicePart_ pk ?_)
  show wpAny _ _ (if ((-1 : Int) == 0) = true then _ else _) _ _ s
  rw [if_neg (by decide)]
  refine wpAny_bind (HT.slicePart_ pl (wpAny_bind (HT.slicePart_ pu (wpAny_bind (wpAny_pure ?_)))))
  show wpAny _ _ (match Builtin.Slice.sliceAdjust none none (-1) (n : Int) with | (lo, hi) => pure (lo, (-1 : Int), Builtin.Slice.slicePlaces lo hi (-1))) _ _ s
  rw [adjust_rev n]
  show wpAny _ _ (pure ((n : Int) - 1, (-1 : Int), Builtin.Slice.slicePlaces ((n : Int) - 1) (-1) (-1))) _ _ s
  rw [places_rev]
  exact wpAny_pure h
theorem fm_congr {α β : Type} {f g : α → Option β} : ∀ {l : List α}, (∀ x ∈ l, f x = g x) → l.filterMap f = l.filterMap g
  | [], _ => rfl
  | x :: l, h => by
    rw [List.filterMap_cons, List.filterMap_cons, h x (by simp), fm_congr fun y hy => h y (List.mem_cons_of_mem _ hy)]
theorem pick_rev (xs : Array Value) : ((List.range xs.size).filterMap fun (m : Nat) => xs[(((xs.size : Int) - 1) + (m : Int) * -1).toNat]?).toArray = xs.toList.reverse.toArray := by
  have e : ((List.range xs.size).filterMap fun (m : Nat) => xs[(((xs.size : Int) - 1) + (m : Int) * -1).toNat]?) = ((List.range xs.size).map fun k => xs.size - 1 - k).filterMap (xs[·]?) := by
    rw [List.filterMap_map]
    refine fm_congr fun m hm => ?_
    have := List.mem_range.mp hm
    show xs[_]? = xs[xs.size - 1 - m]?
    congr 1; omega
  rw [e, PySem.W.krv_range, List.filterMap_reverse, PySem.W.krv_all]
theorem getItem_tuple_rev {t sl : Addr} {items : Array Value} {vl vu vk : Value} {Q : Value → Shared → Prop} (ht : IsTup s.heap t items) (hs : s.heap.IsSliceOf sl vl vu vk) (pl : IsPart vl none) (pu : IsPart vu none) (pk : IsPart vk (some (-1)))
    (h : Q (.ref s.heap.objs.size) { s with heap := s.heap.push { cls := .type "tuple", data := .seq items.toList.reverse.toArray } })
    (hsz : items.size ≤ sizeLine) : wpAny (model prog w) A (getItem (.ref t) (.ref sl)) Q E s := by
  have htake : sizeOk (.seq items.toList.reverse.toArray) := by
    show items.toList.reverse.toArray.size ≤ sizeLine
    rw [List.size_toArray, List.length_reverse, Array.length_toList]
    exact hsz
  obtain ⟨os, hos, hcs, hds⟩ := id hs
  have hTs : s.TypeIs (.ref sl) "slice" := ⟨os, hos, hcs⟩
  unfold getItem
  try with_reducible refine wpAny_holding ?_
  first | refine wpAny_bind (wpAny_pure ?_) | skip
  refine wpAny_bind (wpAny_sequenceKey ht.typeIs (by decide) ?_)
  refine wpAny_bind (wpAny_callSpecial?_slot (name := Str.ofString "__getitem__") ht.typeIs PyProof.Rows.slot_tuple_getitem
    (wpAny_call_entry PyProof.Rows.slot_tuple_getitem ht.typeIs entry_tuple_getitem ?_ (args_tuple_getitem _ _)))
  show wpAny _ _ (Builtin.Tuple.tupleItemsOf (.ref t) >>= _) _ _ s
  refine wpAny_bind (tupleItemsOf_ ht ?_)
  refine wpAny_bind (wpAny_typeOf hTs ?_)
  rw [if_pos (by decide)]
  refine wpAny_bind (sliceApplied_rev hs pl pu pk ?_)
  have hno : ¬ ((((items.size : Int) - 1) == 0 && (-1 : Int) == 1 && items.size == items.size) = true) := by
    rw [show ((-1 : Int) == 1) = false by decide]; simp
  show wpAny _ _ (if (((items.size : Int) - 1) == 0 && (-1 : Int) == 1 && items.size == items.size) = true then _ else _) _ _ s
  rw [if_neg hno, pick_rev]
  first
    | exact wpAny_bind (m := Builtin.Tuple.tupleExact _) (wpAny_newObj_type (wpAny_pure ⟨_, rfl, wpAny_pure h⟩) htake)
    | exact wpAny_bind (m := Builtin.Tuple.tupleExact _) (wpAny_newObj_type (wpAny_bind (wpAny_pure (wpAny_pure ⟨_, rfl, wpAny_pure h⟩))) htake)
    | exact wpAny_bind (wpAny_bind (m := Builtin.Tuple.tupleExact _) (wpAny_newObj_type (wpAny_pure (wpAny_pure ⟨_, rfl, wpAny_pure h⟩)) htake))
    | exact wpAny_bind (wpAny_bind (m := Builtin.Tuple.tupleExact _) (wpAny_newObj_type (wpAny_pure ⟨_, rfl, wpAny_pure h⟩) htake))
end
def tRevA (K : PySem.W.Frag) (te : TE) : TE := fun σ H Q => te σ H fun x H1 => (∃ a xs, x = .ref a ∧ SqL K H1 a xs ∧ ∀ p, H1 p = none → Q (.ref p) (upd H1 p (.lst xs.reverse))) ∨ (∃ a xs, x = .ref a ∧ SqT K H1 a xs ∧ ∀ p, H1 p = none → Q (.ref p) (upd H1 p (.tup xs.reverse)))
theorem pe_revA {X : Cx} {te : TE} {e : Expr} {k : Nat} {p1 p2 p3 pos : Pos} (he : PE X e te) : PE X (.Subscript e (.Slice none none (some (.UnaryOp .USub (.Constant (.int 1) k p1) p2)) p3) pos) (tRevA X.K te) := by
  refine ⟨fun pins s σ H Q I h => ?_⟩
  refine Subscript_ (thn (he.run pins s σ H _ I h) fun v s1 ⟨x, H1, I1, r1, q1⟩ => ?_)
  have hst : PO X (some (.UnaryOp .USub (.Constant (.int 1) k p1) p2)) (tPart (tUn (rU fun i => .int (-i)) (tC (.int 1)))) := po_some (pe_un un_neg pe_int)
  refine wpAny_Slice (thn (po_none.run pins s1 σ H1 (fun o H2 => o = none ∧ H2 = H1) I1 ⟨rfl, rfl⟩) fun vl s2 ⟨l, H2, I2, pl, el, e2⟩ => ?_)
  subst el e2
  refine thn (po_none.run pins s2 σ H2 (fun o H3 => o = none ∧ H3 = H2) I2 ⟨rfl, rfl⟩) fun vu s3 ⟨u, H3, I3, pu, eu, e3⟩ => ?_
  subst eu e3
  refine thn (hst.run pins s3 σ H3 (fun o H4 => o = some (-1) ∧ H4 = H3) I3 ⟨1, rfl, -1, rfl, rfl, rfl⟩) fun vs s4 ⟨o, H4, I4, ps, eo, e4⟩ => ?_
  subst eo e4
  have I5 : Inv X pins σ H4 { s4 with heap := s4.heap.push { cls := .type "slice", data := .fields #[vl, vu, vs] } } := I4.kept (t' := s4.toks) fun b ob q => Heap.get?_push_of_some _ q
  rcases q1 with ⟨a, xs, ex, hx, q⟩ | ⟨a, xs, ex, hx, q⟩
  · subst ex
    cases r1
    obtain ⟨its, r, ht, hz⟩ := I5.list hx
    have hlen := r.length
    show wpAny (model X.prog X.w) X.A (subscriptTail e (.Slice none none (some (.UnaryOp .USub (.Constant (.int 1) k p1) p2)) p3) (.ref a) (.ref s4.heap.objs.size)) (EP X pins σ Q) X.xe { s4 with heap := s4.heap.push { cls := .type "slice", data := .fields #[vl, vu, vs] } }
    refine tail_any (ops := [.ref a, .ref s4.heap.objs.size]) ht.isList.typeIs (PySem.slot_list_getitem.lookup) ?_ (by with_unfolding_all rfl)
    refine wpAny_getItem_list_slice ht.isList (Heap.IsSliceOf.new _ vl vu vs) pl pu ps (by decide) ?_ (by rw [List.size_toArray]; omega)
    rw [PySem.W.krv_pick]
    refine ⟨.ref _, _, I5.laid (t' := s4.toks) (o := .lst xs.reverse) (fun b ob q => Heap.get?_push_of_some _ q) (Nat.le_refl _) ?_, rfl, q _ (I5.hok.fresh (Nat.le_refl _))⟩
    exact ⟨by rw [List.length_reverse]; exact hz, _, 0, r.reverse, Heap.get?_push_size _ rfl⟩
  · subst ex
    cases r1
    obtain ⟨its, r, ht, hz⟩ := I5.tuple hx
    have hlen := r.length
    show wpAny (model X.prog X.w) X.A (subscriptTail e (.Slice none none (some (.UnaryOp .USub (.Constant (.int 1) k p1) p2)) p3) (.ref a) (.ref s4.heap.objs.size)) (EP X pins σ Q) X.xe { s4 with heap := s4.heap.push { cls := .type "slice", data := .fields #[vl, vu, vs] } }
    refine tail_any (ops := [.ref a, .ref s4.heap.objs.size]) ht.typeIs (PyProof.Rows.slot_tuple_getitem.lookup) ?_ (by with_unfolding_all rfl)
    refine getItem_tuple_rev ht (Heap.IsSliceOf.new _ vl vu vs) pl pu ps ?_ (by rw [List.size_toArray]; omega)
    refine ⟨.ref _, _, I5.laid (t' := s4.toks) (o := .tup xs.reverse) (fun b ob q => Heap.get?_push_of_some _ q) (Nat.le_refl _) ?_, rfl, q _ (I5.hok.fresh (Nat.le_refl _))⟩
    exact ⟨by rw [List.length_reverse]; exact hz, _, r.reverse, IsTup.new _ _⟩
def revD (x : D) (h : MH) (Q : KD) : Prop := match x with
  | .ref a => lstK (fun xs => ∀ p, h p = none → Q (.ref p) (up h p (.lst xs.reverse))) (h a)
  | .rol xs => ∀ p, h p = none → Q (.ref p) (up h p (.lst xs.reverse))
  | .tup xs => Q (.tup xs.reverse) h
  | _ => False
theorem de_revL {X : Cx} {e : Expr} {te : E1} {k : Nat} {p1 p2 p3 pos : Pos} (he : DE X e te) : DE X (.Subscript e (.Slice none none (some (.UnaryOp .USub (.Constant (.int 1) k p1) p2)) p3) pos) (dUn revD te) :=
  weakE (pe_revA he) fun σV H QV ⟨σ, h, Q, hE, hH, ht, hc⟩ => ⟨σ, h, _, hE, hH, ht, fun d h' v H' s' r' rv q => by
    cases d with
    | rol xs =>
      obtain ⟨a, vs, rfl, s, r⟩ := rv
      exact .inl ⟨a, vs, rfl, s.sq, fun p np => (hc.step s').new r' np (.of (P2.reverse r.pair)) (q p (r'.nofresh np))⟩
    | ref a =>
      cases (show v = _ from rv)
      obtain ⟨xs, e, q⟩ := lstK_inv q
      obtain ⟨vs, eH, r⟩ := r' a _ e
      exact .inl ⟨a, vs, rfl, SqL.of eH, fun p np => (hc.step s').new r' np (.of (P2.reverse r.pair)) (q p (r'.nofresh np))⟩
    | tup xs =>
      obtain ⟨a, vs, rfl, s, r⟩ := rv
      exact .inr ⟨a, vs, rfl, s, fun p np => (hc.step s').tup r' np (.of (P2.reverse r.pair)) q⟩
    | _ => exact q.elim⟩
/-! how long a repr is -/
def sh (c : Nat) (d : D) : Prop := (pd d).showable = true ∧ (pd d).shown.length ≤ c
theorem sh_none : sh 4 .none := ⟨by simp [pd, PyData.showable], by simp only [pd, PyData.shown]; decide⟩
theorem sh_bool (b : Bool) : sh 5 (.bool b) := ⟨by simp [pd, PyData.showable], by simp only [pd, PyData.shown]; cases b <;> decide⟩
theorem sh_int {i : Int} (h : i.natAbs < 2 ^ 64) : sh 65 (.int i) := by
  have l : i.natAbs.log2 < 64 := by
    by_cases z : i.natAbs = 0
    · rw [z]; decide
    · exact (Nat.log2_lt z).mpr h
  refine ⟨by simp only [pd, PyData.showable]; exact decide_eq_true (by omega), ?_⟩
  simp only [pd, PyData.shown]
  rw [PySem.ofString_length]
  exact int_text_length_le (by decide) l
theorem sh_str {x : Str} {n : Nat} (o : PyData.strOk x = true) (h : x.length ≤ n) : sh (10 * n + 2) (.str x) := by
  refine ⟨by simp [pd, PyData.showable], ?_⟩
  simp only [pd, PyData.shown]
  refine Nat.le_trans (PySem.StrLaws.reprText_len x fun c hc => Nat.lt_trans (okC_iff.mp o c hc) (by decide)) (by omega)
theorem piled_le {c : Nat} : ∀ ts : List Str, (∀ t ∈ ts, t.length ≤ c) → piled ts ≤ ts.length * (c + 2)
  | [], _ => by simp [piled_nil]
  | t :: r, h => by
    have := piled_le r fun u hu => h u (by simp [hu])
    have := h t (by simp)
    rw [piled_cons, List.length_cons, Nat.succ_mul]; omega
theorem shAll_of {c : Nat} : ∀ {ds : List D}, (∀ d ∈ ds, sh c d) → PyData.showableAll (pds ds) = true ∧ (PyData.shownAll (pds ds)).length = ds.length ∧ ∀ t ∈ PyData.shownAll (pds ds), t.length ≤ c
  | [], _ => by simp [pds, PyData.showableAll, PyData.shownAll]
  | d :: ds, h => by
    obtain ⟨a, b, e⟩ := shAll_of (ds := ds) fun x hx => h x (by simp [hx])
    obtain ⟨f, g⟩ := h d (by simp)
    refine ⟨by simp only [pds, PyData.showableAll, f, a]; rfl, by simp only [pds, PyData.shownAll, List.length_cons, b], fun t ht => ?_⟩
    simp only [pds, PyData.shownAll, List.mem_cons] at ht
    rcases ht with rfl | ht
    · exact g
    · exact e t ht
theorem str_app_len (a b : Str) : (a ++ b).length = a.length + b.length := by show (a.cps ++ b.cps).size = _; rw [Array.size_append]; rfl
theorem sh_tup {c n : Nat} {ds : List D} (h : ∀ d ∈ ds, sh c d) (hn : ds.length ≤ n) : sh (n * (c + 2) + 3) (.tup ds) := by
  obtain ⟨a, b, e⟩ := shAll_of h
  refine ⟨by simp only [pd, PyData.showable]; exact a, ?_⟩
  simp only [pd, PyData.shown]
  unfold tupleText
  have hj : (Str.join ", " (PyData.shownAll (pds ds))).length ≤ n * (c + 2) := by
    by_cases z : PyData.shownAll (pds ds) = []
    · rw [z]; exact Nat.zero_le _
    · have h1 := join_length_add _ z
      have h2 := piled_le _ e
      rw [b] at h2
      have h3 : ds.length * (c + 2) ≤ n * (c + 2) := Nat.mul_le_mul_right _ hn
      omega
  rw [str_app_len, str_app_len]
  have h1 : (("(" : String) : Str).length = 1 := by decide
  have h2 : (Str.ofString (if ((PyData.shownAll (pds ds)).length == 1) = true then ",)" else ")")).length ≤ 2 := by split <;> decide
  have h1' : Str.length ("(" : String) = 1 := h1
  have h2' : Str.length (if ((PyData.shownAll (pds ds)).length == 1) = true then ",)" else ")" : String) ≤ 2 := h2
  omega
theorem sh_up {c c' : Nat} {d : D} (h : sh c d) (l : c ≤ c') : sh c' d := ⟨h.1, Nat.le_trans h.2 l⟩
theorem repr_go {c : Nat} {x : D} {h : MH} {Q : KD} (p : pure? 60 x = true) (s : sh c x) (hc : c ≤ sizeLine) (q : Q (.str (pd x).shown) h) : reprD x h Q := ⟨p, s.1, Nat.le_trans s.2 hc, q⟩
end DL
namespace DL
open PySem PySem.Spec PyProof.Rows L2
/-! ### evaluation by simp -/
abbrev D1 := DL.D
theorem atI_z {α : Type} (x : α) (r : List α) : atI (x :: r) 0 = some x := atI_nat (j := 0) rfl
theorem atI_1 {α : Type} (x y : α) (r : List α) : atI (x :: y :: r) 1 = some y := atI_nat (j := 1) rfl
theorem atI_2 {α : Type} (x y z : α) (r : List α) : atI (x :: y :: z :: r) 2 = some z := atI_nat (j := 2) rfl
theorem atI_3 {α : Type} (x y z u : α) (r : List α) : atI (x :: y :: z :: u :: r) 3 = some u := atI_nat (j := 3) rfl
theorem atI_4 {α : Type} (x y z u v : α) (r : List α) : atI (x :: y :: z :: u :: v :: r) 4 = some v := atI_nat (j := 4) rfl
theorem ixN_of {n : Nat} {i : Int} {k : Nat} (e : i = (k : Int)) (h : k < n) : ixN n i = some k := by
  subst e
  unfold ixN
  rw [if_pos (by omega), if_pos (by omega)]; rfl
theorem ixN_last {n : Nat} (h : 0 < n) : ixN n (-1) = some (n - 1) := by
  unfold ixN
  rw [if_neg (by omega), if_pos (by omega)]
  congr 1; omega
theorem atI_of {α : Type} {xs : List α} {i : Int} {k : Nat} {x : α} (e : i = (k : Int)) (h : xs[k]? = some x) : atI xs i = some x := by subst e; exact atI_nat h
theorem atI_neg {α : Type} {xs : List α} {x : α} (h : xs.getLast? = some x) : atI xs (-1) = some x := by
  unfold atI
  cases xs with
  | nil => cases h
  | cons y r =>
    rw [ixN_last (by rw [List.length_cons]; omega)]
    rw [List.getLast?_eq_getElem?] at h
    exact h
theorem lh_of {Q : KD} {d : D} {h : MH} (q : Q d h) : Lh Q d h := ⟨h, le.refl, q⟩
theorem up_com {h : MH} {a b : Addr} {x y : MO} (n : a ≠ b) : up (up h a x) b y = up (up h b y) a x := by
  funext c; unfold up; by_cases p : c = a <;> by_cases q : c = b <;> simp_all
/-- equality of data -/
theorem eqv_int (i j : Int) : PyData.eqv (.int i) (.int j) = decide (i = j) := by simp [PyData.eqv, Bool.beq_eq_decide_eq]
theorem eqv_str (i j : Str) : PyData.eqv (.str i) (.str j) = decide (i = j) := by
  simp only [PyData.eqv]
  by_cases e : i = j
  · subst e; simp
  · rw [decide_eq_false e]; exact beq_eq_false_iff_ne.mpr e
section
variable {σ : Sl} {h : MH} {Q : KD} {D : Nd}
/-! every step by its form; nothing is opened that is not at hand -/
theorem e_seq {t u : S1} : dSeq t u D σ h = t { D with nx := u D } σ h := rfl
theorem e_next : dNext D σ h = D.nx σ h := rfl
theorem e_brk : dBrk D σ h = D.bk σ h := rfl
theorem e_cnt : dCnt D σ h = D.ct σ h := rfl
theorem e_drop {t : E1} : dDrop t D σ h = t σ h fun _ h1 => D.nx σ h1 := rfl
theorem e_ret {t : E1} : dRet t D σ h = t σ h D.rt := rfl
theorem e_retN : dRetN D σ h = D.rt .none h := rfl
theorem e_ifS {c : T1} {t u : S1} : dIfS c t u D σ h = c σ h fun b h1 => if b = true then t D σ h1 else u D σ h1 := rfl
theorem e_asg {t : E1} {g : G1} : dAsg t g D σ h = t σ h fun x h1 => g x σ h1 D.nx := rfl
theorem e_gN {i : Nat} {d : D1} {n : Sl → MH → Prop} : gN i d σ h n = n (put σ i (some d)) h := rfl
theorem e_gSb {to ti : E1} {t : Set1} {d : D1} {n : Sl → MH → Prop} : gSb to ti t d σ h n = to σ h fun o h1 => ti σ h1 fun i h2 => t o i d h2 fun h3 => n σ h3 := rfl
theorem e_gTp {k : Nat} {gs : Gs1} {ds : List D1} {n : Sl → MH → Prop} : gTp k gs (.tup ds) σ h n = (ds.length = k ∧ gs ds σ h n) := rfl
theorem e_gCn {g : G1} {gs : Gs1} {d : D1} {r : List D1} {n : Sl → MH → Prop} : gCn g gs (d :: r) σ h n = g d σ h fun σ' h' => gs r σ' h' n := rfl
theorem e_gNl {n : Sl → MH → Prop} : gNl [] σ h n = n σ h := rfl
def varK (o : Option D1) (h : MH) (Q : KD) : Prop := match o with | some d => Q d h | none => False
theorem e_var {i : Nat} : dVar i σ h Q = varK (nth σ i) h Q := rfl
theorem e_varK {d : D1} : varK (some d) h Q = Q d h := rfl
theorem e_nth0 {x : Option D1} {r : Sl} : nth (x :: r) 0 = x := rfl
theorem e_nthS {x : Option D1} {r : Sl} {n : Nat} : nth (x :: r) (n + 1) = nth r n := rfl
theorem e_put0 {x d : Option D1} {r : Sl} : put (x :: r) 0 d = d :: r := rfl
theorem e_putS {x d : Option D1} {r : Sl} {n : Nat} : put (x :: r) (n + 1) d = x :: put r n d := rfl
theorem e_c {d : D1} : dC d σ h Q = Q d h := rfl
theorem e_op {r : R1} {ta tb : E1} : dOp r ta tb σ h Q = ta σ h fun x h1 => tb σ h1 fun y h2 => r x y h2 Q := rfl
theorem e_un {r : D1 → MH → KD → Prop} {t : E1} : dUn r t σ h Q = t σ h fun x h1 => r x h1 Q := rfl
theorem e_call {r : C1} {t : A1} : dCall r t σ h Q = t σ h fun ds h1 => r ds h1 Q := rfl
theorem e_nil {QA : List D1 → MH → Prop} : dNil σ h QA = QA [] h := rfl
theorem e_cons {t : E1} {r : A1} {QA : List D1 → MH → Prop} : dCons t r σ h QA = t σ h fun x h1 => r σ h1 fun xs h2 => QA (x :: xs) h2 := rfl
theorem e_tup {t : A1} : dTup t σ h Q = t σ h fun ds h1 => ds.length ≤ sizeLine ∧ Q (.tup ds) h1 := rfl
theorem e_lst {t : A1} : dLst t σ h Q = t σ h fun ds h1 => ds.length ≤ sizeLine ∧ ∀ p, h1 p = none → Q (.ref p) (up h1 p (.lst ds)) := rfl
theorem e_test {t : E1} {QB : Bool → MH → Prop} : dTest t σ h QB = t σ h (asB QB) := rfl
theorem e_asB {k : Bool} {QB : Bool → MH → Prop} : asB QB (.bool k) h = QB k h := rfl
theorem e_tru {t : E1} {QB : Bool → MH → Prop} : dTru t σ h QB = t σ h fun x h1 => truD x h1 QB := rfl
theorem e_andT {t u : T1} {QB : Bool → MH → Prop} : dAndT t u σ h QB = t σ h fun c h1 => if c = true then u σ h1 QB else QB false h1 := rfl
theorem e_orT {t u : T1} {QB : Bool → MH → Prop} : dOrT t u σ h QB = t σ h fun c h1 => if c = true then QB true h1 else u σ h1 QB := rfl
theorem e_notT {t : T1} {QB : Bool → MH → Prop} : dNotT t σ h QB = t σ h fun c h1 => QB (!c) h1 := rfl
theorem e_andV {t u : E1} : dAndV t u σ h Q = t σ h (asB fun c h1 => if c = true then u σ h1 Q else Q (.bool false) h1) := rfl
theorem e_orV {t u : E1} : dOrV t u σ h Q = t σ h (asB fun c h1 => if c = true then Q (.bool true) h1 else u σ h1 Q) := rfl
theorem e_notV {t : E1} : dNotV t σ h Q = t σ h (asB fun c h1 => Q (.bool (!c)) h1) := rfl
theorem e_if {t : T1} {ta tb : E1} : dIf t ta tb σ h Q = t σ h fun c h1 => if c = true then ta σ h1 Q else tb σ h1 Q := rfl
theorem e_aug {i : Nat} {t : E1} {r : R1} : dAug i t r D σ h = varK (nth σ i) h fun x h0 => t σ h0 fun y h1 => r x y h1 fun z h2 => D.nx (put σ i (some z)) h2 := by
  unfold dAug varK; cases nth σ i <;> rfl
theorem e_augS {to ti te : E1} {r : R1} : dAugS to ti te r D σ h = to σ h fun o h1 => ti σ h1 fun i h2 => getD1 o i h2 fun x h3 => te σ h3 fun y h4 => r x y h4 fun z h5 => setD o i z h5 fun h6 => D.nx σ h6 := rfl
theorem e_sl {t : E1} {tl tu : O1} : dSl t tl tu σ h Q = t σ h fun x h1 => tl σ h1 fun lo h2 => tu σ h2 fun hi h3 => slD x lo hi h3 Q := rfl
def partK (x : D1) (h : MH) (QO : Option Int → MH → Prop) : Prop := match x with | .int i => QO (some i) h | _ => False
theorem e_part {t : E1} {QO : Option Int → MH → Prop} : dPart t σ h QO = t σ h fun x h1 => partK x h1 QO := rfl
theorem e_partK {i : Int} {QO : Option Int → MH → Prop} : partK (.int i) h QO = QO (some i) h := rfl
theorem e_noPart {QO : Option Int → MH → Prop} : dNoPart σ h QO = QO none h := rfl
theorem e_bm0 {ok : D1 → MH → Prop} {r : M1} {to : E1} : dBM0 ok r to σ h Q = to σ h fun x h1 => ok x h1 ∧ r x [] h1 Q := rfl
theorem e_bm {ok : D1 → MH → Prop} {r : M1} {to : E1} {t : A1} : dBM ok r to t σ h Q = to σ h fun x h1 => ok x h1 ∧ t σ h1 fun ds h2 => r x ds h2 Q := rfl
theorem e_join {to te : E1} : dJoin to te σ h Q = to σ h fun x h1 => (∃ z, x = .str z) ∧ te σ h1 fun y h2 => joinD x y h2 Q := rfl
theorem e_yes {QB : Bool → MH → Prop} : dYes σ h QB = QB true h := rfl
theorem e_wipe0 : wipeD σ [] = σ := rfl
theorem e_wipeS {v : Nat} {vs : List Nat} : wipeD σ (v :: vs) = put (wipeD σ vs) v none := rfl
/-- a comprehension behind its source -/
def lcT (xs : List D1) (stab : MH → Prop) (g : G1) (tt : T1) (te : E1) (vs : List Nat) (σ : Sl) (Q : KD) (h1 : MH) : Prop := xs.length ≤ sizeLine ∧ ∃ I : Nat → List D1 → MH → Prop, (∃ h0, le h0 h1 ∧ I 0 [] h0) ∧ (∀ i a h, I i a h → stab h) ∧
  (∀ i x a h, xs[i]? = some x → I i a h → g x (wipeD σ vs) h fun σ2 h2 => tt σ2 h2 fun b h3 => if b = true then te σ2 h3 fun y h4 => ∃ h5, le h5 h4 ∧ I (i + 1) (a ++ [y]) h5 else ∃ h5, le h5 h3 ∧ I (i + 1) a h5) ∧
  ∀ a h, I xs.length a h → ∀ p, h p = none → Q (.ref p) (up h p (.lst a))
theorem e_lc {it : I1} {g : G1} {tt : T1} {te : E1} {vs : List Nat} : dLc it g tt te vs σ h Q = it σ h fun xs stab h1 => lcT xs stab g tt te vs σ Q h1 := rfl
/-- a for behind its source -/
def forT (xs : List D1) (stab : MH → Prop) (g : G1) (tb : S1) (D : Nd) (σ : Sl) (h1 : MH) : Prop := ∃ I : Nat → Sl → MH → Prop, Lw (I 0) σ h1 ∧ (∀ i σ h, I i σ h → stab h) ∧
  (∀ i x σ h, xs[i]? = some x → I i σ h → g x σ h fun σ2 h2 => tb { D with nx := Lw (I (i + 1)), ct := Lw (I (i + 1)), bk := D.nx } σ2 h2) ∧ ∀ σ h, I xs.length σ h → D.nx σ h
theorem e_for {it : I1} {g : G1} {tb : S1} : dFor it g tb D σ h = it σ h fun xs stab h1 => forT xs stab g tb D σ h1 := rfl
/-- the value is f of the item, nothing is changed -/
theorem lcT_map {xs : List D1} {stab : MH → Prop} {g : G1} {te : E1} {vs : List Nat} (f : D1 → D1) (hz : xs.length ≤ sizeLine) (hs : stab h)
    (he : ∀ x ∈ xs, ∀ Q' : KD, Q' (f x) h → g x (wipeD σ vs) h fun σ2 h2 => te σ2 h2 Q') (fin : ∀ p, h p = none → Q (.ref p) (up h p (.lst (xs.map f)))) : lcT xs stab g dYes te vs σ Q h := by
  refine ⟨hz, fun i a hh => hh = h ∧ a = (xs.take i).map f, ⟨h, le.refl, rfl, rfl⟩, fun i a hh e => by rw [e.1]; exact hs, ?_, ?_⟩
  · rintro i x a hh hx ⟨rfl, rfl⟩
    obtain ⟨hi, ex⟩ := List.getElem?_eq_some_iff.mp hx
    refine he x (List.mem_of_getElem? hx) (fun y h4 => ∃ h5, le h5 h4 ∧ h5 = hh ∧ (xs.take i).map f ++ [y] = (xs.take (i + 1)).map f) ⟨hh, le.refl, rfl, ?_⟩
    rw [List.take_succ_eq_append_getElem hi, List.map_append, ex]; rfl
  · rintro a hh ⟨rfl, rfl⟩ p np
    rw [List.take_length]
    exact fin p np
/-! values -/
theorem v_add {i j : Int} : addD (.int i) (.int j) h Q = Q (.int (i + j)) h := rfl
theorem v_addS {a b : Str} : addD (.str a) (.str b) h Q = (a.length + b.length ≤ sizeLine ∧ Q (.str (a ++ b)) h) := rfl
theorem v_addT {a b : List D1} : addD (.tup a) (.tup b) h Q = (a.length + b.length ≤ sizeLine ∧ Q (.tup (a ++ b)) h) := rfl
theorem v_iadd {i j : Int} : iaddD (.int i) (.int j) h Q = Q (.int (i + j)) h := rfl
theorem v_sub {i j : Int} : subD (.int i) (.int j) h Q = Q (.int (i - j)) h := rfl
theorem v_mul {i j : Int} : mulD (.int i) (.int j) h Q = (mulOk i j ∧ Q (.int (i * j)) h) := rfl
theorem v_fdiv {i j : Int} : fdivD (.int i) (.int j) h Q = (divOk j ∧ Q (.int (i / j)) h) := rfl
theorem v_mod {i j : Int} : modD (.int i) (.int j) h Q = (0 < j ∧ Q (.int (i % j)) h) := rfl
theorem v_pow {i j : Int} : powD (.int i) (.int j) h Q = (CPow i j ∧ Q (.int (i ^ j.toNat)) h) := rfl
theorem v_shl {i j : Int} : shlD (.int i) (.int j) h Q = (CPow i j ∧ Q (.int (i * 2 ^ j.toNat)) h) := rfl
theorem v_shr {i j : Int} : shrD (.int i) (.int j) h Q = (0 ≤ j ∧ Q (.int (i / 2 ^ j.toNat)) h) := rfl
theorem v_neg {i : Int} : negD (.int i) h Q = Q (.int (-i)) h := rfl
theorem v_lt {i j : Int} : ltD (.int i) (.int j) h Q = Q (.bool (decide (i < j))) h := rfl
theorem v_le {i j : Int} : leD (.int i) (.int j) h Q = Q (.bool (decide (i ≤ j))) h := rfl
theorem v_gt {i j : Int} : gtD (.int i) (.int j) h Q = Q (.bool (decide (j < i))) h := rfl
theorem v_ge {i j : Int} : geD (.int i) (.int j) h Q = Q (.bool (decide (j ≤ i))) h := rfl
theorem v_eqI {i j : Int} : eqD (.int i) (.int j) h Q = Q (.bool (decide (i = j))) h := by show Q (.bool (PyData.eqv (.int i) (.int j))) h = _; rw [eqv_int]
theorem v_neI {i j : Int} : neD (.int i) (.int j) h Q = Q (.bool (!decide (i = j))) h := by show Q (.bool (!PyData.eqv (.int i) (.int j))) h = _; rw [eqv_int]
theorem v_eqS {i j : Str} : eqD (.str i) (.str j) h Q = Q (.bool (decide (i = j))) h := by show Q (.bool (PyData.eqv (.str i) (.str j))) h = _; rw [eqv_str]
theorem v_neS {i j : Str} : neD (.str i) (.str j) h Q = Q (.bool (!decide (i = j))) h := by show Q (.bool (!PyData.eqv (.str i) (.str j))) h = _; rw [eqv_str]
theorem v_inS {a z : Str} : inD (.str a) (.str z) h Q = Q (.bool (inS a z)) h := rfl
theorem v_ninS {a z : Str} : ninD (.str a) (.str z) h Q = Q (.bool (!inS a z)) h := rfl
theorem v_inT {x : D1} {ds : List D1} : inD x (.tup ds) h Q = inSeq x (fun b => Q (.bool b) h) ds := rfl
theorem v_ninT {x : D1} {ds : List D1} : ninD x (.tup ds) h Q = inSeq x (fun b => Q (.bool (!b)) h) ds := rfl
theorem v_inRol {x : D1} {ds : List D1} : inD x (.rol ds) h Q = inSeq x (fun b => Q (.bool b) h) ds := rfl
theorem v_ninRol {x : D1} {ds : List D1} : ninD x (.rol ds) h Q = inSeq x (fun b => Q (.bool (!b)) h) ds := rfl
theorem v_inR {x : D1} {a : Addr} : inD x (.ref a) h Q = inO x (fun b => Q (.bool b) h) (h a) := rfl
theorem v_ninR {x : D1} {a : Addr} : ninD x (.ref a) h Q = inO x (fun b => Q (.bool (!b)) h) (h a) := rfl
theorem v_inO {x : D1} {ds : List D1} {k : Bool → Prop} : inO x k (some (.lst ds)) = inSeq x k ds := rfl
theorem v_inOd {x : D1} {kvs : Kvs} {k : Bool → Prop} : inO x k (some (.dic kvs)) = inDic kvs x k := rfl
theorem v_inSeq {x : D1} {ds : List D1} {k : Bool → Prop} : inSeq x k ds = (pure? 60 x = true ∧ pures? 60 ds = true ∧ k (ds.any fun z => eqF z x)) := rfl
theorem v_inDic {x : D1} {kvs : Kvs} {k : Bool → Prop} : inDic kvs x k = (fit kvs x = true ∧ k (dget kvs x).isSome) := rfl
theorem v_seqO {ds : List D1} : seqO (some (.lst ds)) = some ds := rfl
theorem v_seqR {a : Addr} : seqOf h (.ref a) = seqO (h a) := rfl
theorem v_seqT {ds : List D1} : seqOf h (.tup ds) = some ds := rfl
theorem v_seqL {ds : List D1} : seqOf h (.rol ds) = some ds := rfl
def atK (o : Option D1) (h : MH) (Q : KD) : Prop := match o with | some d => Q d h | none => False
theorem v_ixR {a : Addr} {y : D1} : ixD (.ref a) y h Q = ixO y h Q (h a) := rfl
theorem v_ixT {ds : List D1} {y : D1} : ixD (.tup ds) y h Q = ixSeq ds y h Q := rfl
theorem v_ixL {ds : List D1} {y : D1} : ixD (.rol ds) y h Q = ixSeq ds y h Q := rfl
theorem v_ixS {z : Str} {y : D1} : ixD (.str z) y h Q = ixStr z y h Q := rfl
theorem v_ixO {ds : List D1} {y : D1} : ixO y h Q (some (.lst ds)) = ixSeq ds y h Q := rfl
theorem v_ixOd {kvs : Kvs} {y : D1} : ixO y h Q (some (.dic kvs)) = ixDic kvs y h Q := rfl
theorem v_ixSeq {ds : List D1} {i : Int} : ixSeq ds (.int i) h Q = atK (atI ds i) h Q := rfl
theorem v_ixDic {kvs : Kvs} {y : D1} : ixDic kvs y h Q = (fit kvs y = true ∧ dgetK h Q (dget kvs y)) := rfl
theorem v_dgetK {d : D1} : dgetK h Q (some d) = Q d h := rfl
theorem v_atK {d : D1} : atK (some d) h Q = Q d h := rfl
def atSK (o : Option Nat) (h : MH) (Q : KD) : Prop := match o with | some c => Q (.str ⟨#[c]⟩) h | none => False
theorem v_ixStr {z : Str} {i : Int} : ixStr z (.int i) h Q = atSK (atI z.cps.toList i) h Q := rfl
theorem v_atSK {c : Nat} : atSK (some c) h Q = Q (.str ⟨#[c]⟩) h := rfl
def getK (i : Int) (o : Option D1) (h : MH) (Q : KD) : Prop := match o with | some d => 0 ≤ i ∧ Q d h | none => False
theorem v_get {a : Addr} {y : D1} : getD1 (.ref a) y h Q = getO y h Q (h a) := rfl
theorem v_getO {xs : List D1} {y : D1} : getO y h Q (some (.lst xs)) = getL y h Q xs := rfl
theorem v_getOd {kvs : Kvs} {y : D1} : getO y h Q (some (.dic kvs)) = ixDic kvs y h Q := rfl
theorem v_getL {xs : List D1} {i : Int} : getL (.int i) h Q xs = getK i (atI xs i) h Q := rfl
theorem v_getK {i : Int} {d : D1} : getK i (some d) h Q = (0 ≤ i ∧ Q d h) := rfl
def setK (p : Addr) (d : D1) (xs : List D1) (o : Option Nat) (h : MH) (n : MH → Prop) : Prop := match o with | some j => n (up h p (.lst (xs.set j d))) | none => False
theorem v_set {a : Addr} {i d : D1} {n : MH → Prop} : setD (.ref a) i d h n = setO a i d h n (h a) := rfl
theorem v_setO {a : Addr} {i d : D1} {xs : List D1} {n : MH → Prop} : setO a i d h n (some (.lst xs)) = setL a i d h n xs := rfl
theorem v_setOd {a : Addr} {i d : D1} {kvs : Kvs} {n : MH → Prop} : setO a i d h n (some (.dic kvs)) = setDic a i d h n kvs := rfl
theorem v_setL {a : Addr} {i : Int} {d : D1} {xs : List D1} {n : MH → Prop} : setL a (.int i) d h n xs = setK a d xs (ixN xs.length i) h n := rfl
theorem v_setDic {a : Addr} {i d : D1} {kvs : Kvs} {n : MH → Prop} : setDic a i d h n kvs = (fit kvs i = true ∧ kvs.length < sizeLine ∧ n (up h a (.dic (dset kvs i d)))) := rfl
theorem v_setK {a : Addr} {j : Nat} {d : D1} {xs : List D1} {n : MH → Prop} : setK a d xs (some j) h n = n (up h a (.lst (xs.set j d))) := rfl
theorem v_on1 {r : D1 → MH → KD → Prop} {d : D1} : on1 r [d] h Q = r d h Q := rfl
theorem v_on2 {r : R1} {d e : D1} : on2 r [d, e] h Q = r d e h Q := rfl
theorem v_lenR {a : Addr} : lenD (.ref a) h Q = lenO h Q (h a) := rfl
theorem v_lenO {ds : List D1} : lenO h Q (some (.lst ds)) = Q (.int ds.length) h := rfl
theorem v_lenOd {kvs : Kvs} : lenO h Q (some (.dic kvs)) = Q (.int kvs.length) h := rfl
theorem v_lenT {ds : List D1} : lenD (.tup ds) h Q = Q (.int ds.length) h := rfl
theorem v_lenL {ds : List D1} : lenD (.rol ds) h Q = Q (.int ds.length) h := rfl
theorem v_lenS {z : Str} : lenD (.str z) h Q = Q (.int z.length) h := rfl
theorem v_seqK {k : List D1 → Prop} {ds : List D1} : seqK k (some ds) = k ds := rfl
theorem v_tuple {d : D1} : tupleD d h Q = seqK (fun ds => Q (.tup ds) h) (seqOf h d) := rfl
theorem v_list {d : D1} : listD d h Q = seqK (fun ds => ∀ p, h p = none → Q (.ref p) (up h p (.lst ds))) (seqOf h d) := rfl
theorem v_abs {i : Int} : absD (.int i) h Q = Q (.int (if i < 0 then -i else i)) h := rfl
theorem v_intI {i : Int} : intD (.int i) h Q = Q (.int i) h := rfl
theorem v_intB {b : Bool} : intD (.bool b) h Q = Q (.int (if b = true then 1 else 0)) h := rfl
theorem v_okL {a : Addr} : okL (.ref a) h = isLst (h a) := rfl
theorem v_isLst {xs : List D1} : isLst (some (.lst xs)) = True := rfl
theorem v_app {a : Addr} {d : D1} : appendD (.ref a) [d] h Q = lstK (fun xs => xs.length < sizeLine ∧ Q .none (up h a (.lst (xs ++ [d])))) (h a) := rfl
theorem v_lstK {k : List D1 → Prop} {xs : List D1} : lstK k (some (.lst xs)) = k xs := rfl
theorem v_slS {z : Str} {lo hi : Option Int} : slD (.str z) lo hi h Q = Q (.str (cutS z lo hi)) h := rfl
theorem v_slT {ds : List D1} {lo hi : Option Int} : slD (.tup ds) lo hi h Q = Q (.tup (cutD ds lo hi)) h := rfl
theorem v_join {a : Str} {d : D1} : joinD (.str a) d h Q = seqK (joinK a h Q) (seqOf h d) := rfl
theorem v_is {d : D1} : isD d .none h Q = Q (.bool (isNone d)) h := rfl
theorem v_isnot {d : D1} : nisD d .none h Q = Q (.bool (!isNone d)) h := rfl
theorem v_max {i j : Int} : max2D (.int i) (.int j) h Q = Q (.int (if j > i then j else i)) h := rfl
theorem v_min {i j : Int} : min2D (.int i) (.int j) h Q = Q (.int (if j < i then j else i)) h := rfl
theorem v_iSeq {t : E1} {R : List D1 → (MH → Prop) → MH → Prop} : iSeq t σ h R = t σ h fun d h1 => srcD d h1 R := rfl
theorem v_srcT {xs : List D1} {R : List D1 → (MH → Prop) → MH → Prop} : srcD (.tup xs) h R = R xs (fun _ => True) h := rfl
theorem v_srcL {xs : List D1} {R : List D1 → (MH → Prop) → MH → Prop} : srcD (.rol xs) h R = R xs (fun _ => True) h := rfl
theorem v_srcS {z : Str} {R : List D1 → (MH → Prop) → MH → Prop} : srcD (.str z) h R = R (signs z) (fun _ => True) h := rfl
theorem v_srcR {a : Addr} {R : List D1 → (MH → Prop) → MH → Prop} : srcD (.ref a) h R = srcO a h R (h a) := rfl
theorem v_srcO {a : Addr} {xs : List D1} {R : List D1 → (MH → Prop) → MH → Prop} : srcO a h R (some (.lst xs)) = R xs (stabO a xs) h := rfl
theorem v_iRg1 {t : A1} {R : List D1 → (MH → Prop) → MH → Prop} : iRg1 t σ h R = t σ h fun ds h1 => rg1 ds h1 R := rfl
theorem v_rg1 {j : Int} {R : List D1 → (MH → Prop) → MH → Prop} : rg1 [.int j] h R = ((-(2 ^ 62) ≤ j ∧ j < 2 ^ 62) ∧ R (rgD 0 j.toNat) (fun _ => True) h) := rfl
theorem v_truN {QB : Bool → MH → Prop} : truD .none h QB = QB false h := rfl
theorem v_truB {b : Bool} {QB : Bool → MH → Prop} : truD (.bool b) h QB = QB b h := rfl
theorem v_truI {i : Int} {QB : Bool → MH → Prop} : truD (.int i) h QB = QB (i != 0) h := rfl
theorem v_truS {z : Str} {QB : Bool → MH → Prop} : truD (.str z) h QB = QB (z.length != 0) h := rfl
theorem v_truR {a : Addr} {QB : Bool → MH → Prop} : truD (.ref a) h QB = truL h QB (seqO (h a)) := rfl
theorem v_truT {ds : List D1} {QB : Bool → MH → Prop} : truD (.tup ds) h QB = truL h QB (some ds) := rfl
theorem v_truRol {ds : List D1} {QB : Bool → MH → Prop} : truD (.rol ds) h QB = truL h QB (some ds) := rfl
theorem v_truL {ds : List D1} {QB : Bool → MH → Prop} : truL h QB (some ds) = QB (!ds.isEmpty) h := rfl
theorem e_dic0 : dDic0 σ h Q = ∀ p, h p = none → Q (.ref p) (up h p (.dic [])) := rfl
theorem e_disp {trs : List (E1 × E1)} : dDisp trs σ h Q = dPairs trs σ h fun ps h1 => ps.all (fun p => (scaK p.1).isSome) = true ∧ ps.length ≤ 15 ∧ ∀ p, h1 p = none → Q (.ref p) (up h1 p (.dic (dmerge [] ps))) := rfl
theorem e_pairs0 {QP : Kvs → MH → Prop} : dPairs [] σ h QP = QP [] h := rfl
theorem e_pairsS {tk tv : E1} {r : List (E1 × E1)} {QP : Kvs → MH → Prop} : dPairs ((tk, tv) :: r) σ h QP = tk σ h fun x h1 => tv σ h1 fun y h2 => dPairs r σ h2 fun ps h3 => QP ((x, y) :: ps) h3 := rfl
theorem e_chain {r r' : R1} {ta tb tc : E1} : dChain r r' ta tb tc σ h Q = ta σ h fun x h1 => tb σ h1 fun y h2 => r x y h2 (asB fun k h3 => if k = true then tc σ h3 fun z h4 => r' y z h4 Q else Q (.bool false) h3) := rfl
theorem v_bits {i : Int} : bitsD (.int i) h Q = Q (.int (Builtin.Int.intBits i : Nat)) h := rfl
theorem v_iRg3 {t : A1} {R : List D1 → (MH → Prop) → MH → Prop} : iRg3 t σ h R = t σ h fun ds h1 => rg3 ds h1 R := rfl
theorem v_rg3 {i j c : Int} {R : List D1 → (MH → Prop) → MH → Prop} : rg3 [.int i, .int j, .int c] h R = ∃ n, RgC i j c n ∧ R (rgC i c n) (fun _ => True) h := rfl
theorem v_iRg2 {t : A1} {R : List D1 → (MH → Prop) → MH → Prop} : iRg2 t σ h R = t σ h fun ds h1 => rg2 ds h1 R := rfl
theorem v_rg2 {i j : Int} {R : List D1 → (MH → Prop) → MH → Prop} : rg2 [.int i, .int j] h R = ((-(2 ^ 62) ≤ i ∧ i < 2 ^ 62 ∧ -(2 ^ 62) ≤ j ∧ j < 2 ^ 62) ∧ R (rgD i (j - i).toNat) (fun _ => True) h) := rfl
theorem v_iEn {t : A1} {R : List D1 → (MH → Prop) → MH → Prop} : iEn t σ h R = t σ h fun ds h1 => enK ds h1 R := rfl
theorem v_enT {xs : List D1} {R : List D1 → (MH → Prop) → MH → Prop} : enK [.tup xs] h R = R (enD 0 xs) (fun _ => True) h := rfl
theorem v_enR {a : Addr} {R : List D1 → (MH → Prop) → MH → Prop} : enK [.ref a] h R = enO a h R (h a) := rfl
theorem v_enO {a : Addr} {xs : List D1} {R : List D1 → (MH → Prop) → MH → Prop} : enO a h R (some (.lst xs)) = R (enD 0 xs) (stabO a xs) h := rfl
theorem v_iZp {t : A1} {R : List D1 → (MH → Prop) → MH → Prop} : iZp t σ h R = t σ h fun ds h1 => zpK ds h1 R := rfl
theorem v_zpT {xs ys : List D1} {R : List D1 → (MH → Prop) → MH → Prop} : zpK [.tup xs, .tup ys] h R = R (zpD xs ys) (fun _ => True) h := rfl
theorem v_zpR {a b : Addr} {R : List D1 → (MH → Prop) → MH → Prop} : zpK [.ref a, .ref b] h R = zpO a b h R (h a) (h b) := rfl
theorem v_zpO {a b : Addr} {xs ys : List D1} {R : List D1 → (MH → Prop) → MH → Prop} : zpO a b h R (some (.lst xs)) (some (.lst ys)) = R (zpD xs ys) (fun h => stabO a xs h ∧ stabO b ys h) h := rfl
theorem v_repr {x : D1} : reprD x h Q = (pure? 60 x = true ∧ (pd x).showable = true ∧ (pd x).shown.length ≤ sizeLine ∧ Q (.str (pd x).shown) h) := rfl
theorem v_strI {i : Int} : strD (.int i) h Q = (i.natAbs.log2 < 1920 ∧ Q (.str (Str.ofString (toString i))) h) := rfl
theorem v_strS {z : Str} : strD (.str z) h Q = Q (.str z) h := rfl
theorem v_addR {p q : Addr} : addD (.ref p) (.ref q) h Q = ∃ a b, h p = some (.lst a) ∧ h q = some (.lst b) ∧ a.length + b.length ≤ sizeLine ∧ ∀ l, h l = none → Q (.ref l) (up h l (.lst (a ++ b))) := rfl
theorem v_and {i j : Int} : andD (.int i) (.int j) h Q = Q (.int (Builtin.bitAnd i j)) h := rfl
theorem v_slR {a : Addr} {lo hi : Option Int} : slD (.ref a) lo hi h Q = slL h lo hi Q (h a) := rfl
theorem v_slL {ds : List D1} {lo hi : Option Int} : slL h lo hi Q (some (.lst ds)) = ∀ l, h l = none → Q (.ref l) (up h l (.lst (cutD ds lo hi))) := rfl
theorem v_ltS {i j : Str} : ltD (.str i) (.str j) h Q = Q (.bool (ltS i j)) h := rfl
theorem v_isi {x : D1} {n : String} : isiD x (.ty n) h Q = isiK n (fun b => Q (.bool b) h) (tyN h x) := rfl
theorem v_srtT {ds : List D1} : sortedD (.tup ds) h Q = sortK ds h Q := rfl
theorem v_srtR {a : Addr} : sortedD (.ref a) h Q = sortO h Q (h a) := rfl
theorem v_srtO {ds : List D1} : sortO h Q (some (.lst ds)) = sortK ds h Q := rfl
theorem v_srtD {kvs : Kvs} : sortO h Q (some (.dic kvs)) = (kvs.all (fun p => (scaK p.1).isSome) = true ∧ sortK (kvs.map (·.1)) h Q) := rfl
theorem v_revR {a : Addr} : revD (.ref a) h Q = lstK (fun xs => ∀ p, h p = none → Q (.ref p) (up h p (.lst xs.reverse))) (h a) := rfl
theorem v_iZs {t : A1} {R : List D1 → (MH → Prop) → MH → Prop} : iZs t σ h R = t σ h fun ds h1 => zsK ds h1 R := rfl
theorem v_zsT {xs : List D1} {z : Str} {R : List D1 → (MH → Prop) → MH → Prop} : zsK [.tup xs, .str z] h R = R (zpD xs (signs z)) (fun _ => True) h := rfl
theorem v_revT {ds : List D1} : revD (.tup ds) h Q = Q (.tup ds.reverse) h := rfl
theorem v_isB {a b : Bool} : isD (.bool a) (.bool b) h Q = Q (.bool (decide (a = b))) h := rfl
theorem v_mulR {p : Addr} {k : Int} : mulD (.ref p) (.int k) h Q = ∃ a, h p = some (.lst a) ∧ (-(2 ^ 63) ≤ k ∧ k < 2 ^ 63) ∧ a.length * k.toNat ≤ sizeLine ∧ ∀ l, h l = none → Q (.ref l) (up h l (.lst (List.replicate k.toNat a).flatten)) := rfl
theorem v_all {p : Addr} {ds : List D1} {bs : List Bool} (e : h p = some (.lst ds)) (f : blsOf ds = some bs) (q : Q (.bool (bs.all id)) h) : allD (.ref p) h Q := by
  unfold allD blsK
  show seqK _ (seqO (h p))
  rw [e]
  exact ⟨bs, f, q⟩
theorem v_any {p : Addr} {ds : List D1} {bs : List Bool} (e : h p = some (.lst ds)) (f : blsOf ds = some bs) (q : Q (.bool (bs.any id)) h) : anyD (.ref p) h Q := by
  unfold anyD blsK
  show seqK _ (seqO (h p))
  rw [e]
  exact ⟨bs, f, q⟩
end
end DL
namespace DL
open PySem PySem.Spec PyProof.Rows L2
/-! ### the state of the draws -/
/-- the five places of a draw's list: the cells' list at c, a place that is no number below 0, two numbers and a 3 -/
def DrO (c : Addr) (o : MO) : Prop := ∃ p acc r : Int, 0 ≤ p ∧ o = .lst [.ref c, .int p, .int acc, .int r, .int 3]
structure Dr (a c : Addr) (cs : List Int) (h : MH) : Prop where
  st : ∃ o, h a = some o ∧ DrO c o
  ce : h c = some (.lst (cs.map D.int))
theorem Dr.ne {a c : Addr} {cs : List Int} {h : MH} (d : Dr a c cs h) : c ≠ a := by
  obtain ⟨o, e, p, acc, r, _, rfl⟩ := d.st
  intro z
  have f := d.ce
  rw [z, e] at f
  cases cs with
  | nil => cases f
  | cons x xs => cases f
theorem Dr.up {a c : Addr} {cs : List Int} {h : MH} (d : Dr a c cs h) {o : MO} (k : DrO c o) : Dr a c cs (up h a o) :=
  ⟨⟨o, up_same, k⟩, by rw [up_ne d.ne]; exact d.ce⟩
theorem Dr.new {a c : Addr} {cs : List Int} {h : MH} (d : Dr a c cs h) {l : Addr} (n : h l = none) {o : MO} : Dr a c cs (DL.up h l o) := by
  obtain ⟨u, e, k⟩ := d.st
  exact ⟨⟨u, by rw [up_ne (fun z => by rw [← z, e] at n; cases n)]; exact e, k⟩, by rw [up_ne (fun z => by rw [← z, d.ce] at n; cases n)]; exact d.ce⟩
theorem Dr.put {a c : Addr} {cs : List Int} {h : MH} (d : Dr a c cs h) {l : Addr} (n1 : a ≠ l) (n2 : c ≠ l) {o : MO} : Dr a c cs (DL.up h l o) := by
  obtain ⟨u, e, k⟩ := d.st
  exact ⟨⟨u, by rw [up_ne n1]; exact e, k⟩, by rw [up_ne n2]; exact d.ce⟩
def sp__law_draw : P1 := fun ds h Q => ∃ a c cs many, ds = [.ref a, .int many] ∧ 0 < many ∧ many < 2 ^ 64 ∧ Dr a c cs h ∧ ∀ r o, 0 ≤ r → r < many → DrO c o → Q (.int r) (up h a o)
def sp__law_begin : P1 := fun ds h Q => ∃ cs : List Int, ds = [.rol (cs.map D.int)] ∧ cs.length ≤ 63 ∧ ∀ a c o, h a = none → h c = none → a ≠ c → DrO c o → Q (.ref a) (up (up h c (.lst (cs.map D.int))) a o)
theorem divOk_of {j : Int} (h : 0 < j) (h2 : j < 2 ^ 64) : divOk j := by
  exact wide_div (i := 0) (b := 64) h (by omega) (by decide) (by decide)
theorem up_id {h : MH} {a : Addr} {o : MO} (e : h a = some o) : up h a o = h := by
  funext b; unfold up; split
  · rename_i z; rw [z, e]
  · rfl
/-- a row of draws -/
theorem lcT_draws {h : MH} {a c : Addr} {cs : List Int} (d : Dr a c cs h) (P : D → Prop) {xs : List D} {g : G1} {te : E1} {vs : List Nat} {σ : Sl} {Q : KD} (hz : xs.length ≤ sizeLine)
    (he : ∀ (i : Nat) (x : D) (o : MO) (Q' : KD), xs[i]? = some x → DrO c o → (∀ y o', P y → DrO c o' → Q' y (up h a o')) → g x (wipeD σ vs) (up h a o) fun σ2 h2 => te σ2 h2 Q')
    (fin : ∀ (acc : List D) (o : MO) (p : Addr), acc.length = xs.length → (∀ y ∈ acc, P y) → DrO c o → up h a o p = none → Q (.ref p) (up (up h a o) p (.lst acc))) : lcT xs (fun _ => True) g dYes te vs σ Q h := by
  obtain ⟨o0, e0, k0⟩ := d.st
  refine ⟨hz, fun i acc hh => ∃ o, hh = up h a o ∧ DrO c o ∧ acc.length = i ∧ ∀ y ∈ acc, P y, ⟨h, le.refl, o0, (up_id e0).symm, k0, rfl, by simp⟩, fun _ _ _ _ => trivial, ?_, ?_⟩
  · rintro i x acc hh hx ⟨o, rfl, k, hl, hP⟩
    refine he i x o (fun y h4 => ∃ h5, le h5 h4 ∧ ∃ o, h5 = up h a o ∧ DrO c o ∧ (acc ++ [y]).length = i + 1 ∧ ∀ z ∈ acc ++ [y], P z) hx k fun y o' hy k' => ⟨_, le.refl, o', rfl, k', by rw [List.length_append, hl]; rfl, fun z hz => ?_⟩
    rcases List.mem_append.mp hz with hz | hz
    · exact hP z hz
    · rw [List.mem_singleton.mp hz]; exact hy
  · rintro acc hh ⟨o, rfl, k, hl, hP⟩ p np
    exact fin acc o p hl hP k np
/-! ### pick -/
def rowOf (h : MH) : D → Option (List D)
  | .str z => some (signs z)
  | .tup ds => some ds
  | .rol ds => some ds
  | .ref l => seqO (h l)
  | _ => none
theorem signs_len (z : Str) : (signs z).length = z.length := by unfold signs; rw [List.length_map]; exact Array.length_toList
theorem seqO_some {o : Option MO} {xs : List D} (e : seqO o = some xs) : o = some (.lst xs) := by
  cases o with
  | none => cases e
  | some u => cases u <;> first | (cases e; rfl) | (cases e; done)
theorem len_row {h : MH} {row : D} {xs : List D} {Q : KD} (e : rowOf h row = some xs) (q : Q (.int xs.length) h) : lenD row h Q := by
  cases row <;> try (cases e; done)
  case str z => cases e; rw [signs_len] at q; exact q
  case tup ds => cases e; exact q
  case rol ds => cases e; exact q
  case ref l =>
    have e : seqO (h l) = some xs := e
    rw [v_lenR, seqO_some e]; exact q
theorem ix_row {h : MH} {row : D} {xs : List D} {Q : KD} {k : Nat} {x : D} (e : rowOf h row = some xs) (hx : xs[k]? = some x) (q : Q x h) : ixD row (.int k) h Q := by
  cases row <;> try (cases e; done)
  case str z =>
    cases e
    unfold signs at hx
    rw [List.getElem?_map] at hx
    obtain ⟨c, hc, rfl⟩ := Option.map_eq_some_iff.mp hx
    rw [v_ixS, v_ixStr, atI_of rfl hc]; exact q
  case tup ds => cases e; rw [v_ixT, v_ixSeq, atI_of rfl hx]; exact q
  case rol ds => cases e; rw [v_ixL, v_ixSeq, atI_of rfl hx]; exact q
  case ref l =>
    have e : seqO (h l) = some xs := e
    rw [v_ixR, seqO_some e, v_ixO, v_ixSeq, atI_of rfl hx]; exact q
def sp__law_pick : P1 := fun ds h Q => ∃ a c cs row xs, ds = [.ref a, row] ∧ Dr a c cs h ∧ rowOf h row = some xs ∧ row ≠ .ref a ∧ xs ≠ [] ∧ xs.length < 2 ^ 64 ∧ ∀ x o, x ∈ xs → DrO c o → Q x (up h a o)
end DL
namespace DL
open PySem PySem.Spec PyProof.Rows L2
local macro_rules | `(tactic| walk_at "ev") => `(tactic| try simp only [e_seq, e_next, e_brk, e_cnt, e_drop, e_ret, e_retN, e_ifS, e_asg, e_gN, e_gSb, e_gTp, e_gCn, e_gNl, e_var, e_varK, e_nth0, e_nthS, e_put0, e_putS, e_c, e_op, e_un, e_call, e_nil, e_cons, e_tup, e_lst, e_test, e_asB, e_tru, e_andT, e_orT, e_notT, e_andV, e_orV, e_notV, e_if, e_aug, e_augS, e_sl, e_part, e_partK, e_noPart, e_bm0, e_bm, e_join, e_yes, e_wipe0, e_wipeS, e_lc, e_for, v_add, v_addS, v_addT, v_iadd, v_sub, v_mul, v_fdiv, v_mod, v_pow, v_shl, v_shr, v_neg, v_lt, v_le, v_gt, v_ge, v_eqI, v_neI, v_eqS, v_neS, v_inS, v_ninS, v_inT, v_ninT, v_inR, v_ninR, v_inSeq, v_seqO, v_seqR, v_seqT, v_seqL, v_ixR, v_ixT, v_ixL, v_ixS, v_atK, v_atSK, v_get, v_getL, v_getK, v_set, v_setL, v_setK, v_on1, v_on2, v_lenR, v_lenT, v_lenL, v_lenS, v_seqK, v_tuple, v_list, v_abs, v_intI, v_intB, v_okL, v_isLst, v_app, v_lstK, v_slS, v_slT, v_join, v_is, v_isnot, v_max, v_min, v_iSeq, v_srcT, v_srcL, v_srcS, v_srcR, v_srcO, v_iRg1, v_rg1, v_truN, v_truB, v_truI, v_truS, v_truR, v_truT, v_truRol, v_truL, v_inRol, v_ninRol, v_inO, v_inOd, v_inDic, v_ixO, v_ixOd, v_ixSeq, v_ixDic, v_dgetK, v_ixStr, v_getO, v_getOd, v_setO, v_setOd, v_setDic, v_lenO, v_lenOd, e_dic0, e_disp, e_pairs0, e_pairsS, e_chain, v_bits, v_iRg3, v_rg3, v_iRg2, v_rg2, v_iEn, v_enT, v_enR, v_enO, v_iZp, v_zpT, v_zpR, v_zpO, v_repr, v_strI, v_strS, v_addR, v_and, v_slR, v_slL, v_ltS, v_srtT, v_srtR, v_srtO, v_srtD, v_revR, v_revT, v_isB, v_iZs, v_zsT])
theorem nef {h : MH} {a b : Addr} {u : MO} (e : h b = some u) (n : h a = none) : b ≠ a := fun z => by rw [z, n] at e; cases e
theorem v_pop {h : MH} {Q : KD} {a : Addr} {i : Int} : popD (.ref a) [.int i] h Q = lstK (fun xs => ∃ k y, ixN xs.length i = some k ∧ xs[k]? = some y ∧ (-(2 ^ 63) ≤ i ∧ i < 2 ^ 63) ∧ Q y (up h a (.lst (xs.eraseIdx k)))) (h a) := rfl
theorem erase_perm {α : Type} : ∀ (l : List α) (j : Nat) (h : j < l.length), (l[j] :: l.eraseIdx j).Perm l
  | x :: r, 0, _ => List.Perm.refl _
  | x :: r, j + 1, h => by
    show (r[j]'(Nat.lt_of_succ_lt_succ h) :: x :: r.eraseIdx j).Perm (x :: r)
    exact (List.Perm.swap x _ _).trans ((erase_perm r j (Nat.lt_of_succ_lt_succ h)).cons x)
theorem divOk_2 : divOk 2 := divOk_of (by decide) (by decide)
theorem divOk_16 : divOk 16 := divOk_of (by decide) (by decide)
theorem mulOk_l {i j : Int} (h : -(2 ^ 64) < i ∧ i < 2 ^ 64) : mulOk i j := .inl h
theorem mulOk_r {i j : Int} (h : -(2 ^ 64) < j ∧ j < 2 ^ 64) : mulOk i j := .inr h
theorem isi_eval {h : MH} {Q : KD} {x : D} {t n : String} {b : Bool} (e : tyN h x = some t) (k : kitB t n = some b) : isiD x (.ty n) h Q = Q (.bool b) h := by
  show isiK n _ (tyN h x) = _
  rw [e]
  show kitK _ (kitB t n) = _
  rw [k]; rfl
/-- the type's name of what is pure -/
def tyP : D → String
  | .none => "NoneType"
  | .bool _ => "bool"
  | .int _ => "int"
  | .str _ => "str"
  | .tup _ => "tuple"
  | .rol _ => "list"
  | .ref _ => ""
  | .ty _ => ""
theorem ty_pure {n : Nat} {x : D} (p : pure? n x = true) (h : MH) : tyN h x = some (tyP x) := by
  cases x <;> first | rfl | (simp [pure?] at p)
theorem eqD_pure {x y : D} {h : MH} {Q : KD} (px : pure? 60 x = true) (py : pure? 60 y = true) : eqD x y h Q = Q (.bool (eqF x y)) h := by
  have v : ∀ {z : D}, pure? 60 z = true → view h z = some (pd z) := fun {z} p => by
    have : viewP z = some (pd z) := by unfold viewP; rw [if_pos p]
    cases z <;> first | exact this | (simp [pure?] at p)
  show eqvO (view h x) (view h y) _ = _
  rw [v px, v py]; rfl
theorem neD_pure {x y : D} {h : MH} {Q : KD} (px : pure? 60 x = true) (py : pure? 60 y = true) : neD x y h Q = Q (.bool (!eqF x y)) h := by
  have v : ∀ {z : D}, pure? 60 z = true → view h z = some (pd z) := fun {z} p => by
    have : viewP z = some (pd z) := by unfold viewP; rw [if_pos p]
    cases z <;> first | exact this | (simp [pure?] at p)
  show eqvO (view h x) (view h y) _ = _
  rw [v px, v py]; rfl
theorem v_eqIS {i : Int} {z : Str} {h : MH} {Q : KD} : eqD (.int i) (.str z) h Q = Q (.bool false) h := rfl
theorem v_neIS {i : Int} {z : Str} {h : MH} {Q : KD} : neD (.int i) (.str z) h Q = Q (.bool true) h := rfl
theorem v_eqB {a b : Bool} {h : MH} {Q : KD} : eqD (.bool a) (.bool b) h Q = Q (.bool (a == b)) h := rfl
theorem v_neB {a b : Bool} {h : MH} {Q : KD} : neD (.bool a) (.bool b) h Q = Q (.bool (!(a == b))) h := rfl
mutual
theorem pure_le : ∀ {n m : Nat}, n ≤ m → ∀ x : D, pure? n x = true → pure? m x = true
  | _, _, _, .none, _ => by simp [pure?]
  | _, _, _, .bool _, _ => by simp [pure?]
  | _, _, _, .int _, _ => by simp [pure?]
  | _, _, _, .str _, _ => by simp [pure?]
  | 0, _, _, .tup ds, p => by simp [pure?] at p
  | n + 1, 0, h, .tup ds, p => by omega
  | n + 1, m + 1, h, .tup ds, p => by
    have p' : pures? n ds = true := by simpa [pure?] using p
    simp only [pure?]; exact pures_le (by omega) ds p'
  | 0, _, _, .rol ds, p => by simp [pure?] at p
  | n + 1, 0, h, .rol ds, p => by omega
  | n + 1, m + 1, h, .rol ds, p => by
    have p' : pures? n ds = true := by simpa [pure?] using p
    simp only [pure?]; exact pures_le (by omega) ds p'
  | _, _, _, .ref _, p => by simp [pure?] at p
  | _, _, _, .ty _, p => by simp [pure?] at p
theorem pures_le : ∀ {n m : Nat}, n ≤ m → ∀ ds : List D, pures? n ds = true → pures? m ds = true
  | _, _, _, [], _ => by simp [pures?]
  | n, m, h, d :: ds, p => by
    have p' : pure? n d = true ∧ pures? n ds = true := by simpa [pures?] using p
    simp only [pures?, pure_le h d p'.1, pures_le h ds p'.2]; rfl
end
theorem pures_mem {n : Nat} {ds : List D} (p : pures? n ds = true) {x : D} (hx : x ∈ ds) : pure? n x = true := by
  rw [pures_all, List.all_eq_true] at p
  exact p x hx
/-! comprehensions over rows of one kind -/
section
variable {α : Type} {h : MH} {xs : List D} {stab : MH → Prop} {g : G1} {te : E1} {tt : T1} {vs : List Nat} {σ : Sl} {Q : KD}
theorem lcT_t (ys : List α) (e f : α → D) (ex : xs = ys.map e) (hz : ys.length ≤ sizeLine) (hs : stab h)
    (he : ∀ y ∈ ys, ∀ Q' : KD, (∀ h', le h h' → Q' (f y) h') → g (e y) (wipeD σ vs) h fun σ2 h2 => te σ2 h2 Q') (fin : ∀ p, h p = none → Q (.ref p) (up h p (.lst (ys.map f)))) : lcT xs stab g dYes te vs σ Q h := by
  subst ex
  refine ⟨by rw [List.length_map]; exact hz, fun i a hh => hh = h ∧ a = (ys.take i).map f, ⟨h, le.refl, rfl, rfl⟩, fun i a hh e => by rw [e.1]; exact hs, ?_, ?_⟩
  · rintro i x a hh hx ⟨rfl, rfl⟩
    rw [List.getElem?_map] at hx
    obtain ⟨y, hy, rfl⟩ := Option.map_eq_some_iff.mp hx
    obtain ⟨hi, ey⟩ := List.getElem?_eq_some_iff.mp hy
    refine he y (List.mem_of_getElem? hy) (fun z h4 => ∃ h5, le h5 h4 ∧ h5 = hh ∧ (ys.take i).map f ++ [z] = (ys.take (i + 1)).map f) fun h' l => ⟨hh, l, rfl, ?_⟩
    rw [List.take_succ_eq_append_getElem hi, List.map_append, ey]; rfl
  · rintro a hh ⟨rfl, rfl⟩ p np
    rw [List.length_map, List.take_length]
    exact fin p np
theorem lcT_tf (ys : List α) (e f : α → D) (P : α → Bool) (ex : xs = ys.map e) (hz : ys.length ≤ sizeLine) (hs : stab h)
    (he : ∀ y ∈ ys, ∀ (Q' : KD) (R : MH → Prop), (P y = true → ∀ h', le h h' → Q' (f y) h') → (P y = false → ∀ h', le h h' → R h') → g (e y) (wipeD σ vs) h fun σ2 h2 => tt σ2 h2 fun b h3 => if b = true then te σ2 h3 Q' else R h3)
    (fin : ∀ p, h p = none → Q (.ref p) (up h p (.lst ((ys.filter P).map f)))) : lcT xs stab g tt te vs σ Q h := by
  subst ex
  refine ⟨by rw [List.length_map]; exact hz, fun i a hh => hh = h ∧ a = ((ys.take i).filter P).map f, ⟨h, le.refl, rfl, rfl⟩, fun i a hh e => by rw [e.1]; exact hs, ?_, ?_⟩
  · rintro i x a hh hx ⟨rfl, rfl⟩
    rw [List.getElem?_map] at hx
    obtain ⟨y, hy, rfl⟩ := Option.map_eq_some_iff.mp hx
    obtain ⟨hi, ey⟩ := List.getElem?_eq_some_iff.mp hy
    refine he y (List.mem_of_getElem? hy) (fun z h4 => ∃ h5, le h5 h4 ∧ h5 = hh ∧ ((ys.take i).filter P).map f ++ [z] = ((ys.take (i + 1)).filter P).map f) (fun h4 => ∃ h5, le h5 h4 ∧ h5 = hh ∧ ((ys.take i).filter P).map f = ((ys.take (i + 1)).filter P).map f) (fun k h' l => ⟨hh, l, rfl, ?_⟩) fun k h' l => ⟨hh, l, rfl, ?_⟩
    · rw [List.take_succ_eq_append_getElem hi, List.filter_append, List.map_append, ey, List.filter_cons, if_pos k]; rfl
    · rw [List.take_succ_eq_append_getElem hi, List.filter_append, List.map_append, ey, List.filter_cons, if_neg (by rw [k]; exact Bool.false_ne_true), List.filter_nil, List.map_nil, List.append_nil]
  · rintro a hh ⟨rfl, rfl⟩ p np
    rw [List.length_map, List.take_length]
    exact fin p np
end
theorem rgD_0 (n : Nat) : rgD 0 n = (List.range n).map fun (i : Nat) => D.int i := by
  unfold rgD
  exact List.map_congr_left fun i _ => by rw [Int.zero_add]
theorem le_up {h : MH} {p : Addr} {o : MO} (n : h p = none) : le h (up h p o) := le.up n
theorem lh_le {Q : KD} {d : D} {h h' : MH} (l : le h h') (q : Q d h) : Lh Q d h' := ⟨h, l, q⟩
theorem all_bools {h : MH} {Q : KD} {p : Addr} {bs : List Bool} (q : Q (.bool (bs.all id)) (up h p (.lst (bs.map D.bool)))) : allD (.ref p) (up h p (.lst (bs.map D.bool))) Q := v_all up_same (blsOf_map bs) q
theorem pures_of {n : Nat} {ds : List D} (h : ∀ x ∈ ds, pure? n x = true) : pures? n ds = true := by
  rw [pures_all, List.all_eq_true]; exact h
theorem bnd62 {N : Nat} (h : N ≤ 1048576) : -(2 ^ 62) ≤ (N : Int) ∧ (N : Int) < 2 ^ 62 := by omega
theorem cut_to {α : Type} {f : α → D} {l : List α} {k : Nat} (h : k ≤ l.length) : cutD (l.map f) none (some (k : Int)) = (l.take k).map f := by
  unfold cutD
  rw [HT.sIx_nat, HT.sIx_none, List.length_map, Nat.min_eq_left h, List.drop_zero, Nat.sub_zero, List.map_take]
theorem cut_from {α : Type} {f : α → D} {l : List α} {k : Nat} (h : k ≤ l.length) : cutD (l.map f) (some (k : Int)) none = (l.drop k).map f := by
  unfold cutD
  rw [HT.sIx_nat, HT.sIx_none, List.length_map, Nat.min_eq_left h, ← List.map_drop, List.take_of_length_le (by rw [List.length_map, List.length_drop]; exact Nat.le_refl _)]
theorem up4 {h : MH} {a b : Addr} (n : a ≠ b) {x y z w : MO} : up (up (up (up h a x) b y) a z) b w = up (up h a z) b w := by
  funext c; unfold up; by_cases p : c = b <;> by_cases q : c = a <;> simp_all
theorem up3 {h : MH} {a b : Addr} (n : a ≠ b) {x y z : MO} : up (up (up h a x) b y) a z = up (up h a z) b y := by
  funext c; unfold up; by_cases p : c = b <;> by_cases q : c = a <;> simp_all
theorem sl_lt {n : Nat} (h : n ≤ 1000000) : n < sizeLine := Nat.lt_of_le_of_lt h (by decide)
theorem rg_len (n : Nat) : (rgD 0 ((n : Int)).toNat).length = n := by rw [Int.toNat_natCast, rgD_0, List.length_map, List.length_range]
theorem rg_at {n i : Nat} {x : D} (h : (rgD 0 ((n : Int)).toNat)[i]? = some x) : i < n ∧ x = .int (i : Nat) := by
  rw [Int.toNat_natCast, rgD_0, List.getElem?_map] at h
  obtain ⟨y, hy, rfl⟩ := Option.map_eq_some_iff.mp h
  obtain ⟨hl, e⟩ := List.getElem?_eq_some_iff.mp hy
  rw [List.length_range] at hl
  rw [List.getElem_range] at e
  subst e
  exact ⟨hl, rfl⟩
theorem cut_k {l : List D} {k : Nat} : cutD l none (some (k : Int)) = l.take k := by
  unfold cutD
  rw [HT.sIx_nat, HT.sIx_none, List.drop_zero, Nat.sub_zero]
  by_cases h : k ≤ l.length
  · rw [Nat.min_eq_left h]
  · rw [Nat.min_eq_right (by omega), List.take_length, List.take_of_length_le (by omega)]
/-! what draws and new things leave -/
structure Ext (h : MH) (a : Addr) (o : MO) (H : MH) : Prop where
  le_ : le (up h a o) H
  at_ : H a = some o
section
variable {h H : MH} {a l c : Addr} {o o' x : MO} {cs : List Int}
theorem Ext.start (e : h a = some o) : Ext h a o h := ⟨by rw [up_id e]; exact le.refl, e⟩
theorem Ext.draw (E : Ext h a o H) : Ext h a o' (up H a o') := ⟨fun y u hu => by
  by_cases z : y = a
  · subst z; rw [up_same] at hu ⊢; exact hu
  · rw [up_ne z] at hu ⊢; exact E.le_ y u (by rw [up_ne z]; exact hu), up_same⟩
theorem Ext.ne (E : Ext h a o H) (n : H l = none) : a ≠ l := nef E.at_ n
theorem Ext.new (E : Ext h a o H) (n : H l = none) : Ext h a o (up H l x) := ⟨E.le_.trans (le.up n), by rw [up_ne (E.ne n)]; exact E.at_⟩
theorem Ext.grow {H' : MH} (E : Ext h a o H) (w : le H H') : Ext h a o H' := ⟨E.le_.trans w, w _ _ E.at_⟩
theorem Ext.fresh (E : Ext h a o H) (n : H l = none) : h l = none := by
  cases z : h l with
  | none => rfl
  | some u =>
    have := E.le_ l u (by rw [up_ne (E.ne n).symm]; exact z)
    rw [n] at this; cases this
theorem Ext.get (E : Ext h a o H) {y : Addr} {u : MO} (e : h y = some u) (n : y ≠ a) : H y = some u := E.le_ y u (by rw [up_ne n]; exact e)
theorem Ext.dr (E : Ext h a o H) (d : Dr a c cs h) (k : DrO c o) : Dr a c cs H := ⟨⟨o, E.at_, k⟩, E.get d.ce d.ne⟩
theorem Ext.fin (E : Ext h a o H) : le (up (up h a o) l x) (up H l x) := le.up2 E.le_
end
theorem nats_of {K : Nat} : ∀ {acc : List D}, (∀ y ∈ acc, ∃ k : Nat, k < K ∧ y = .int k) → ∃ row : List Nat, acc = (row.map fun (x : Nat) => D.int x) ∧ (∀ x ∈ row, x < K) ∧ row.length = acc.length
  | [], _ => ⟨[], rfl, by simp, rfl⟩
  | y :: r, h => by
    obtain ⟨k, hk, rfl⟩ := h y (by simp)
    obtain ⟨row, e, hr, hl⟩ := nats_of (acc := r) fun z hz => h z (by simp [hz])
    refine ⟨k :: row, by rw [e]; rfl, fun x hx => ?_, by rw [List.length_cons, List.length_cons, hl]⟩
    rcases List.mem_cons.mp hx with rfl | hx
    · exact hk
    · exact hr x hx
theorem lcT_any {α : Type} {h : MH} {xs : List D} {stab : MH → Prop} {g : G1} {te : E1} {vs : List Nat} {σ : Sl} {Q : KD} (P : D → Prop) (ys : List α) (e : α → D) (ex : xs = ys.map e) (hz : ys.length ≤ sizeLine) (hs : stab h)
    (he : ∀ y ∈ ys, ∀ Q' : KD, (∀ z h', P z → le h h' → Q' z h') → g (e y) (wipeD σ vs) h fun σ2 h2 => te σ2 h2 Q') (fin : ∀ acc p, acc.length = ys.length → (∀ z ∈ acc, P z) → h p = none → Q (.ref p) (up h p (.lst acc))) : lcT xs stab g dYes te vs σ Q h := by
  subst ex
  refine ⟨by rw [List.length_map]; exact hz, fun i a hh => hh = h ∧ a.length = i ∧ ∀ z ∈ a, P z, ⟨h, le.refl, rfl, rfl, by simp⟩, fun i a hh e => by rw [e.1]; exact hs, ?_, ?_⟩
  · rintro i x a hh hx ⟨rfl, rfl, hp⟩
    rw [List.getElem?_map] at hx
    obtain ⟨y, hy, rfl⟩ := Option.map_eq_some_iff.mp hx
    refine he y (List.mem_of_getElem? hy) (fun z h4 => ∃ h5, le h5 h4 ∧ h5 = hh ∧ (a ++ [z]).length = a.length + 1 ∧ ∀ w ∈ a ++ [z], P w) fun z h' pz l => ⟨hh, l, rfl, by rw [List.length_append]; rfl, fun w hw => ?_⟩
    rcases List.mem_append.mp hw with hw | hw
    · exact hp w hw
    · rw [List.mem_singleton.mp hw]; exact pz
  · rintro a hh ⟨rfl, hl, hp⟩ p np
    rw [List.length_map] at hl
    exact fin a p hl hp np
theorem v_sum {p : Addr} {h : MH} {Q : KD} {is : List Int} (e : h p = some (.lst (is.map D.int))) (q : Q (.int is.sum) h) : sumD (.ref p) h Q := by
  show seqK _ (seqO (h p))
  rw [e]
  exact ⟨is, intsOf_map is, q⟩
theorem sum_le : ∀ (ws : List Int) (m : Int), 0 ≤ m → (∀ w ∈ ws, 0 ≤ w ∧ w ≤ m) → 0 ≤ ws.sum ∧ ws.sum ≤ m * ws.length
  | [], m, _, _ => by simp
  | w :: r, m, hm, h => by
    obtain ⟨a, b⟩ := sum_le r m hm fun x hx => h x (by simp [hx])
    obtain ⟨c, d⟩ := h w (by simp)
    rw [List.sum_cons, List.length_cons]
    refine ⟨by omega, ?_⟩
    have : m * ((r.length + 1 : Nat) : Int) = m * (r.length : Int) + m := by rw [Int.natCast_add, Int.mul_add]; simp
    omega
theorem set_map_range (f : Nat → D) (m p : Nat) (y : D) : ((List.range m).map f).set p y = (List.range m).map fun q => if q = p then y else f q := by
  apply List.ext_getElem?
  intro i
  rw [List.getElem?_map]
  by_cases h : i < m
  · rw [List.getElem?_range h]
    by_cases e : i = p
    · subst e
      rw [List.getElem?_set_self (by rw [List.length_map, List.length_range]; exact h)]
      simp
    · rw [List.getElem?_set_ne (Ne.symm e), List.getElem?_map, List.getElem?_range h]
      simp [e]
  · rw [List.getElem?_eq_none (by rw [List.length_set, List.length_map, List.length_range]; omega), List.getElem?_eq_none (by rw [List.length_range]; omega)]
    rfl
theorem v_maxL {p : Addr} {h : MH} {Q : KD} {is : List Int} (e : h p = some (.lst (is.map D.int))) (ne : 0 < is.length) (q : ∀ m, m ∈ is → (∀ y, y ∈ is → y ≤ m) → Q (.int m) h) : maxLD (.ref p) h Q := by
  show seqK _ (seqO (h p))
  rw [e]
  exact ⟨is, intsOf_map is, ne, q⟩
end DL
namespace DL
open PySem PySem.Spec PyProof.Rows L2
/-! what a def that draws has laid: ws are its own things (new since h), in hh; the rest of h stands, but for the draws' list -/
structure LV (h : MH) (a c : Addr) (cs : List Int) (hh : MH) (ws : List (Addr × MO)) : Prop where
  dr0 : Dr a c cs h
  ext : ∃ o, DrO c o ∧ Ext h a o hh
  at_ : ∀ p ∈ ws, hh p.1 = some p.2
  fr : ∀ p ∈ ws, h p.1 = none
  nd : (ws.map (·.1)).Nodup
section
variable {h hh : MH} {a c p l : Addr} {cs : List Int} {ws : List (Addr × MO)} {o x y : MO} {Q : KD}
theorem LV.start (d : Dr a c cs h) : LV h a c cs h [] := by
  obtain ⟨o, e, k⟩ := d.st
  exact ⟨d, ⟨o, k, Ext.start e⟩, by simp, by simp, by simp⟩
theorem LV.dr (L : LV h a c cs hh ws) : Dr a c cs hh := let ⟨_, k, E⟩ := L.ext; E.dr L.dr0 k
theorem LV.old (L : LV h a c cs hh ws) {b : Addr} {u : MO} (e : h b = some u) (n : b ≠ a) : hh b = some u := let ⟨_, _, E⟩ := L.ext; E.get e n
theorem LV.mem (L : LV h a c cs hh ws) (m : (l, x) ∈ ws) : hh l = some x := L.at_ _ m
theorem LV.get (L : LV h a c cs hh ws) (i : Nat) (e : ws[i]? = some (l, x)) : hh l = some x := L.at_ _ (List.mem_of_getElem? e)
theorem LV.ne (L : LV h a c cs hh ws) (n : hh p = none) : p ≠ a := let ⟨_, _, E⟩ := L.ext; (E.ne n).symm
theorem LV.na (L : LV h a c cs hh ws) (m : (l, x) ∈ ws) : l ≠ a := fun z => by
  obtain ⟨o, e, _⟩ := L.dr0.st
  have := L.fr _ m
  rw [show (l, x).1 = a from z, e] at this; cases this
theorem LV.fresh (L : LV h a c cs hh ws) (n : hh p = none) : h p = none := let ⟨_, _, E⟩ := L.ext; E.fresh n
theorem LV.new (L : LV h a c cs hh ws) (n : hh p = none) (x : MO) : LV h a c cs (up hh p x) ((p, x) :: ws) := by
  obtain ⟨o, k, E⟩ := L.ext
  refine ⟨L.dr0, ⟨o, k, E.new n⟩, fun q hq => ?_, fun q hq => ?_, ?_⟩
  · rcases List.mem_cons.mp hq with rfl | hq
    · exact up_same
    · have e := L.at_ q hq
      rw [up_ne (nef e n)]; exact e
  · rcases List.mem_cons.mp hq with rfl | hq
    · exact E.fresh n
    · exact L.fr q hq
  · rw [List.map_cons, List.nodup_cons]
    refine ⟨fun hm => ?_, L.nd⟩
    obtain ⟨q, hq, e⟩ := List.mem_map.mp hm
    have := L.at_ q hq
    rw [e, n] at this; cases this
theorem LV.drawn (L : LV h a c cs hh ws) (k : DrO c o) : LV h a c cs (up hh a o) ws := by
  obtain ⟨o0, k0, E⟩ := L.ext
  refine ⟨L.dr0, ⟨o, k, E.draw⟩, fun q hq => ?_, L.fr, L.nd⟩
  rw [up_ne (L.na (x := q.2) hq)]; exact L.at_ q hq
theorem LV.set (L : LV h a c cs hh ws) (i : Nat) (e : ws[i]? = some (l, x)) (y : MO) : LV h a c cs (up hh l y) (ws.set i (l, y)) := by
  obtain ⟨o, k, E⟩ := L.ext
  have m := List.mem_of_getElem? e
  have hl : h l = none := L.fr _ m
  have la : l ≠ a := L.na m
  have E' : Ext h a o (up hh l y) := by
    refine ⟨fun b u q => ?_, by rw [up_ne la.symm]; exact E.at_⟩
    by_cases z : b = l
    · subst z; rw [up_ne la, hl] at q; cases q
    · rw [up_ne z]; exact E.le_ b u q
  have hi := (List.getElem?_eq_some_iff.mp e).1
  have ei := (List.getElem?_eq_some_iff.mp e).2
  have emap : (ws.set i (l, y)).map (·.1) = ws.map (·.1) := by
    rw [List.map_set]
    refine List.ext_getElem? fun j => ?_
    by_cases z : j = i
    · subst z
      rw [List.getElem?_set_self (by rw [List.length_map]; exact hi), List.getElem?_map, e]; rfl
    · rw [List.getElem?_set_ne (Ne.symm z)]
  refine ⟨L.dr0, ⟨o, k, E'⟩, fun q hq => ?_, fun q hq => ?_, by rw [emap]; exact L.nd⟩
  · obtain ⟨j, hj⟩ := List.getElem?_of_mem hq
    by_cases z : j = i
    · subst z
      rw [List.getElem?_set_self hi] at hj
      cases hj
      exact up_same
    · rw [List.getElem?_set_ne (Ne.symm z)] at hj
      have ql : q.1 ≠ l := fun w => by
        have n1 := L.nd
        have e1 : (ws.map (·.1))[j]? = some l := by rw [List.getElem?_map, hj, ← w]; rfl
        have e2 : (ws.map (·.1))[i]? = some l := by rw [List.getElem?_map, e]; rfl
        have h1 := (List.getElem?_eq_some_iff.mp e1)
        have h2 := (List.getElem?_eq_some_iff.mp e2)
        obtain ⟨a1, b1⟩ := h1
        obtain ⟨a2, b2⟩ := h2
        exact z ((List.getElem_inj n1).mp (b1.trans b2.symm))
      rw [up_ne ql]; exact L.at_ q (List.mem_of_getElem? hj)
  · obtain ⟨j, hj⟩ := List.getElem?_of_mem hq
    by_cases z : j = i
    · subst z
      rw [List.getElem?_set_self hi] at hj
      cases hj
      exact hl
    · rw [List.getElem?_set_ne (Ne.symm z)] at hj
      exact L.fr q (List.mem_of_getElem? hj)
/-- fewer things are told -/
theorem LV.sub (L : LV h a c cs hh ws) {vs : List (Addr × MO)} (s : vs.Sublist ws) : LV h a c cs hh vs := ⟨L.dr0, L.ext, fun p hp => L.at_ p (s.subset hp), fun p hp => L.fr p (s.subset hp), (s.map _).nodup L.nd⟩
theorem LV.tl {w : Addr × MO} (L : LV h a c cs hh (w :: ws)) : LV h a c cs hh ws := L.sub (List.sublist_cons_self w ws)
theorem LV.nil (L : LV h a c cs hh ws) : LV h a c cs hh [] := L.sub (List.nil_sublist ws)
theorem LV.kp {w v : Addr × MO} (L : LV h a c cs hh (w :: v :: ws)) : LV h a c cs hh (w :: ws) := L.sub ((List.sublist_cons_self v ws).cons_cons w)
/-- readers of it -/
theorem LV.newE (L : LV h a c cs hh ws) {h1 : MH} (n : hh p = none) (e : up hh p x = h1) : LV h a c cs h1 ((p, x) :: ws) := e ▸ L.new n x
theorem LV.draw (L : LV h a c cs hh ws) {n : Int} (hn : 0 < n) (hn2 : n < 2 ^ 64) (q : ∀ r h1, 0 ≤ r → r < n → LV h a c cs h1 ws → Q (.int r) h1) : sp__law_draw [.ref a, .int n] hh Q :=
  ⟨a, c, cs, n, rfl, hn, hn2, L.dr, fun r o r0 r1 k => q r _ r0 r1 (L.drawn k)⟩
/-- one of a list that is at hand -/
theorem LV.pick (L : LV h a c cs hh ws) {xs : List D} (e : hh l = some (.lst xs)) (la : l ≠ a) (ne : xs ≠ []) (hl : xs.length < 2 ^ 64) (q : ∀ x ∈ xs, ∀ h1, LV h a c cs h1 ws → Q x h1) : sp__law_pick [.ref a, .ref l] hh Q :=
  ⟨a, c, cs, .ref l, xs, rfl, L.dr, (by show seqO (hh l) = _; rw [e]; rfl), (fun z => by cases z; exact la rfl), ne, hl, fun x o hx k => q x hx _ (L.drawn k)⟩
theorem LV.pickT (L : LV h a c cs hh ws) {xs : List D} (ne : xs ≠ []) (hl : xs.length < 2 ^ 64) (q : ∀ x ∈ xs, ∀ h1, LV h a c cs h1 ws → Q x h1) : sp__law_pick [.ref a, .tup xs] hh Q :=
  ⟨a, c, cs, .tup xs, xs, rfl, L.dr, rfl, (fun z => by cases z), ne, hl, fun x o hx k => q x hx _ (L.drawn k)⟩
/-- one of a list that is written down -/
theorem LV.pickN (L : LV h a c cs hh ws) {xs : List D} (ne : xs ≠ []) (hl : xs.length < 100) (q : ∀ x ∈ xs, ∀ h1, LV h a c cs h1 ws → Q x h1) : ∀ p, hh p = none → sp__law_pick [.ref a, .ref p] (up hh p (.lst xs)) Q := fun p n =>
  (L.new n (.lst xs)).pick (up_same) (L.ne n) ne (by omega) fun x hx h1 L1 => q x hx h1 L1.tl
/-- the end -/
theorem LV.ret (L : LV h a c cs hh ws) {d : D} (q : ∀ o, DrO c o → Q d (up h a o)) : Lh Q d hh := let ⟨o, k, E⟩ := L.ext; ⟨_, E.le_, q o k⟩
theorem LV.retN (L : LV h a c cs hh ws) (m : (p, x) ∈ ws) {d : D} (q : ∀ o, DrO c o → h p = none → Q d (up (up h a o) p x)) : Lh Q d hh := by
  obtain ⟨o, k, E⟩ := L.ext
  refine ⟨_, ?_, q o k (L.fr _ m)⟩
  intro b u e
  by_cases z : b = p
  · subst z; rw [up_same] at e; cases e; exact L.at_ _ m
  · rw [up_ne z] at e; exact E.le_ b u e
end
end DL
namespace DL
open PySem PySem.Spec PyProof.Rows L2
/-! what has a value and changes nothing: proofs that grow with the text alone (a walk over a long list is too much for the kernel) -/
def Ev (t : E1) (σ : Sl) (h : MH) (x : D) : Prop := ∀ Q : KD, Q x h → t σ h Q
def EvA (t : A1) (σ : Sl) (h : MH) (xs : List D) : Prop := ∀ Q : List D → MH → Prop, Q xs h → t σ h Q
section
variable {σ : Sl} {h : MH} {x y z : D} {xs ys : List D} {t a b : E1} {ta r : A1} {i j : Int} {s u : Str} {Q : KD}
theorem Ev.c : Ev (dC x) σ h x := fun _ q => q
theorem Ev.var {k : Nat} (e : nth σ k = some x) : Ev (dVar k) σ h x := fun Q q => by rw [e_var, e]; exact q
theorem EvA.nil : EvA dNil σ h [] := fun _ q => q
theorem EvA.cons (ht : Ev t σ h x) (hr : EvA r σ h xs) : EvA (dCons t r) σ h (x :: xs) := fun Q q => ht _ (hr _ q)
theorem Ev.tup (ht : EvA ta σ h xs) (hl : xs.length ≤ sizeLine) : Ev (dTup ta) σ h (.tup xs) := fun Q q => ht _ ⟨hl, q⟩
theorem Ev.op {rr : R1} (ha : Ev a σ h x) (hb : Ev b σ h y) (hr : ∀ Q : KD, Q z h → rr x y h Q) : Ev (dOp rr a b) σ h z := fun Q q => ha _ (hb _ (hr Q q))
theorem Ev.un {rr : D → MH → KD → Prop} (ha : Ev a σ h x) (hr : ∀ Q : KD, Q z h → rr x h Q) : Ev (dUn rr a) σ h z := fun Q q => ha _ (hr Q q)
theorem Ev.call {rr : C1} (ha : EvA ta σ h xs) (hr : ∀ Q : KD, Q z h → rr xs h Q) : Ev (dCall rr ta) σ h z := fun Q q => ha _ (hr Q q)
theorem Ev.addI (ha : Ev a σ h (.int i)) (hb : Ev b σ h (.int j)) : Ev (dOp addD a b) σ h (.int (i + j)) := .op ha hb fun _ q => q
theorem Ev.subI (ha : Ev a σ h (.int i)) (hb : Ev b σ h (.int j)) : Ev (dOp subD a b) σ h (.int (i - j)) := .op ha hb fun _ q => q
theorem Ev.negI (ha : Ev a σ h (.int i)) : Ev (dUn negD a) σ h (.int (-i)) := .un ha fun _ q => q
theorem Ev.addS (ha : Ev a σ h (.str s)) (hb : Ev b σ h (.str u)) (hl : s.length + u.length ≤ sizeLine) : Ev (dOp addD a b) σ h (.str (s ++ u)) := .op ha hb fun _ q => ⟨hl, q⟩
theorem Ev.addT (ha : Ev a σ h (.tup xs)) (hb : Ev b σ h (.tup ys)) (hl : xs.length + ys.length ≤ sizeLine) : Ev (dOp addD a b) σ h (.tup (xs ++ ys)) := .op ha hb fun _ q => ⟨hl, q⟩
theorem Ev.eqI (ha : Ev a σ h (.int i)) (hb : Ev b σ h (.int j)) : Ev (dOp eqD a b) σ h (.bool (decide (i = j))) := .op ha hb fun _ q => by rw [v_eqI]; exact q
theorem Ev.intB {k : Bool} (ha : Ev a σ h (.bool k)) : Ev (dCall (on1 intD) (dCons a dNil)) σ h (.int (if k = true then 1 else 0)) := .call (.cons ha .nil) fun _ q => q
theorem Ev.ixT {k : Nat} (ha : Ev a σ h (.tup xs)) (hb : Ev b σ h (.int i)) (e : i = (k : Nat)) (hx : xs[k]? = some x) : Ev (dOp ixD a b) σ h x := .op ha hb fun Q q => by
  show atK (atI xs i) h Q
  rw [atI_of e hx]; exact q
theorem Ev.t0 : Ev (dTup dNil) σ h (.tup []) := .tup .nil (by decide)
theorem Ev.t1 (ha : Ev a σ h x) : Ev (dTup (dCons a dNil)) σ h (.tup [x]) := .tup (.cons ha .nil) (show 1 ≤ sizeLine by decide)
theorem Ev.t2 (ha : Ev a σ h x) (hb : Ev b σ h y) : Ev (dTup (dCons a (dCons b dNil))) σ h (.tup [x, y]) := .tup (.cons ha (.cons hb .nil)) (show 2 ≤ sizeLine by decide)
theorem Ev.t3 (ha : Ev a σ h x) (hb : Ev b σ h y) (hc : Ev t σ h z) : Ev (dTup (dCons a (dCons b (dCons t dNil)))) σ h (.tup [x, y, z]) := .tup (.cons ha (.cons hb (.cons hc .nil))) (show 3 ≤ sizeLine by decide)
theorem Ev.t4 {t' : E1} {w : D} (ha : Ev a σ h x) (hb : Ev b σ h y) (hc : Ev t σ h z) (hd : Ev t' σ h w) : Ev (dTup (dCons a (dCons b (dCons t (dCons t' dNil))))) σ h (.tup [x, y, z, w]) := .tup (.cons ha (.cons hb (.cons hc (.cons hd .nil)))) (show 4 ≤ sizeLine by decide)
theorem Ev.slTo (ha : Ev a σ h (.tup xs)) (hb : Ev b σ h (.int i)) : Ev (dSl a dNoPart (dPart b)) σ h (.tup (cutD xs none (some i))) := fun Q q => ha _ (hb _ q)
theorem Ev.slFrom (ha : Ev a σ h (.tup xs)) (hb : Ev b σ h (.int i)) : Ev (dSl a (dPart b) dNoPart) σ h (.tup (cutD xs (some i) none)) := fun Q q => ha _ (hb _ q)
/-- a name is set, and on -/
theorem Ev.set {k : Nat} {N : Nd} {v : S1} (e : Ev t σ h x) (q : v N (put σ k (some x)) h) : dSeq (dAsg t (gN k)) v N σ h := e _ q
theorem Ev.eq (e : Ev t σ h x) (z : x = y) : Ev t σ h y := z ▸ e
/-- a list that is written down -/
theorem Ev.lst (ht : EvA ta σ h xs) (hl : xs.length ≤ sizeLine) (q : ∀ p, h p = none → Q (.ref p) (up h p (.lst xs))) : dLst ta σ h Q := ht _ ⟨hl, q⟩
end
end DL
namespace DL
open PySem PySem.Spec PyProof.Rows L2
/-! terms_of: 0 bounds, 1 found, 2 l, 3 r, 4 gap, 5 term -/
def rd_terms_of_b1_1 : S1 :=
  (dAsg (dC (.bool true)) (gSb (dVar 1) (dVar 3) setD))
def rd_terms_of_b1 : S1 :=
  dSeq (dAsg (dC (.bool true)) (gSb (dVar 1) (dVar 2) setD)) rd_terms_of_b1_1
def rd_terms_of_2 : S1 :=
  (dRet (dLc (iSeq (dCall (on1 sortedD) (dCons (dVar 1) dNil))) (gN 5) (dTest (dOp neD (dVar 5) (dC (.str (Str.ofString "0"))))) (dVar 5) [5]))
def rd_terms_of_1 : S1 :=
  dSeq (dFor (iSeq (dVar 0)) (gTp 3 (gCn (gN 2) (gCn (gN 3) (gCn (gN 4) gNl)))) rd_terms_of_b1) rd_terms_of_2
def rd_terms_of : S1 :=
  dSeq (dAsg dDic0 (gN 1)) rd_terms_of_1
/-! with_range: 0 bounds, 1 terms, 2 found, 3 term -/
def rd_with_range_b1_1 : S1 :=
  (dDrop (dBM okL appendD (dVar 2) (dCons (dTup (dCons (dVar 3) (dCons (dC (.str (Str.ofString "0"))) (dCons (dC (.int 9999)) dNil)))) dNil)))
def rd_with_range_b1 : S1 :=
  dSeq (dDrop (dBM okL appendD (dVar 2) (dCons (dTup (dCons (dC (.str (Str.ofString "0"))) (dCons (dVar 3) (dCons (dC (.int 0)) dNil)))) dNil))) rd_with_range_b1_1
def rd_with_range_2 : S1 :=
  (dRet (dVar 2))
def rd_with_range_1 : S1 :=
  dSeq (dFor (iSeq (dVar 1)) (gN 3) rd_with_range_b1) rd_with_range_2
def rd_with_range : S1 :=
  dSeq (dAsg (dCall (on1 listD) (dCons (dVar 0) dNil)) (gN 2)) rd_with_range_1
/-! ring_from: 0 front, 1 term, 2 many, 3 turn, 4 ring -/
def rd_ring_from_b1 : S1 :=
  (dAsg (dOp ixD (dOp ixD (dVar 0) (dVar 1)) (dC (.int 0))) (gN 1))
def rd_ring_from_b2 : S1 :=
  (dDrop (dBM okL appendD (dVar 4) (dCons (dOp ixD (dVar 0) (dOp ixD (dOp ixD (dVar 4) (dUn negD (dC (.int 1)))) (dC (.int 0)))) dNil)))
def rd_ring_from_3 : S1 :=
  (dRet (dCall (on1 tupleD) (dCons (dUn revD (dVar 4)) dNil)))
def rd_ring_from_2 : S1 :=
  dSeq (dWhile (dTest (dOp neD (dOp ixD (dOp ixD (dVar 4) (dUn negD (dC (.int 1)))) (dC (.int 0))) (dVar 1))) rd_ring_from_b2) rd_ring_from_3
def rd_ring_from_1 : S1 :=
  dSeq (dAsg (dLst (dCons (dOp ixD (dVar 0) (dVar 1)) dNil)) (gN 4)) rd_ring_from_2
def rd_ring_from : S1 :=
  dSeq (dFor (iRg1 (dCons (dVar 2) dNil)) (gN 3) rd_ring_from_b1) rd_ring_from_1
/-! opposite: 0 bound, 1 l, 2 r, 3 gap -/
def rd_opposite_1 : S1 :=
  (dRet (dTup (dCons (dVar 2) (dCons (dVar 1) (dCons (dOp subD (dUn negD (dVar 3)) (dC (.int 1))) dNil)))))
def rd_opposite : S1 :=
  dSeq (dAsg (dVar 0) (gTp 3 (gCn (gN 1) (gCn (gN 2) (gCn (gN 3) gNl))))) rd_opposite_1
/-! _law_begin: 0 _law_script, 1 _law_cell -/
def rd__law_begin : S1 :=
  (dRet (dLst (dCons (dLc (iSeq (dVar 0)) (gN 1) dYes (dCall (on1 intD) (dCons (dVar 1) dNil)) [1]) (dCons (dC (.int 0)) (dCons (dC (.int 0)) (dCons (dC (.int 7)) (dCons (dC (.int 3)) dNil)))))))
/-! _law_draw: 0 _law_d, 1 _law_many, 2 _law_found, 3 _law_size, 4 _law_cell -/
def rd__law_draw_6 : S1 :=
  (dRet (dOp modD (dCall (on1 intD) (dCons (dOp fdivD (dOp ixD (dVar 0) (dC (.int 3))) (dC (.int 16))) dNil)) (dVar 1)))
def rd__law_draw_5 : S1 :=
  dSeq (dAsg (dOp modD (dCall (on1 intD) (dCons (dOp addD (dOp addD (dOp addD (dOp mulD (dOp ixD (dVar 0) (dC (.int 3))) (dC (.int 48271))) (dOp mulD (dOp modD (dCall (on1 intD) (dCons (dVar 3) dNil)) (dC (.int 2147483629))) (dC (.int 16807)))) (dOp mulD (dOp ixD (dVar 0) (dC (.int 1))) (dC (.int 69621)))) (dC (.int 11))) dNil)) (dC (.int 2147483647))) (gSb (dVar 0) (dC (.int 3)) setD)) rd__law_draw_6
def rd__law_draw_4 : S1 :=
  dSeq (dIfS (dTest (dOp geD (dVar 3) (dOp mulD (dC (.int 2)) (dOp powD (dC (.int 10)) (dC (.int 18)))))) (dSeq (dAsg (dOp modD (dCall (on1 intD) (dCons (dOp fdivD (dVar 3) (dC (.int 2))) dNil)) (dOp shlD (dC (.int 1)) (dC (.int 6000)))) (gN 2))
  (dSeq (dAsg (dOp fdivD (dVar 2) (dVar 1)) (gSb (dVar 0) (dC (.int 2)) setD))
  (dRet (dOp modD (dCall (on1 intD) (dCons (dVar 2) dNil)) (dVar 1))))) dNext) rd__law_draw_5
def rd__law_draw_3 : S1 :=
  dSeq (dAugS (dVar 0) (dC (.int 1)) (dC (.int 1)) iaddD) rd__law_draw_4
def rd__law_draw_2 : S1 :=
  dSeq (dIfS (dTest (dOp ltD (dOp ixD (dVar 0) (dC (.int 1))) (dCall (on1 lenD) (dCons (dOp ixD (dVar 0) (dC (.int 0))) dNil)))) (dSeq (dAsg (dOp ixD (dOp ixD (dVar 0) (dC (.int 0))) (dOp ixD (dVar 0) (dC (.int 1)))) (gN 4))
  (dAsg (dOp addD (dOp mulD (dC (.int 2)) (dCall (on1 absD) (dCons (dVar 4) dNil))) (dCall (on1 intD) (dCons (dOp ltD (dVar 4) (dC (.int 0))) dNil))) (gN 3))) dNext) rd__law_draw_3
def rd__law_draw_1 : S1 :=
  dSeq (dAsg (dC (.int 0)) (gN 3)) rd__law_draw_2
def rd__law_draw : S1 :=
  dSeq (dIfS (dTest (dOp gtD (dOp ixD (dVar 0) (dC (.int 2))) (dC (.int 0)))) (dSeq (dAsg (dOp ixD (dVar 0) (dC (.int 2))) (gN 2))
  (dSeq (dAsg (dOp fdivD (dVar 2) (dVar 1)) (gSb (dVar 0) (dC (.int 2)) setD))
  (dRet (dOp modD (dCall (on1 intD) (dCons (dVar 2) dNil)) (dVar 1))))) dNext) rd__law_draw_1
/-! _law_is_int: 0 _law_thing -/
def rd__law_is_int : S1 :=
  (dRet (dAndV (dCall (on2 isiD) (dCons (dVar 0) (dCons (dC (.ty "int")) dNil))) (dNotV (dCall (on2 isiD) (dCons (dVar 0) (dCons (dC (.ty "bool")) dNil))))))
/-! _law_terms: 0 _law_bounds, 1 _law_found, 2 _law_bound, 3 _law_term -/
def rd__law_terms_b2 : S1 :=
  (dIfS (dAndT (dTest (dOp neD (dVar 3) (dC (.str (Str.ofString "0"))))) (dTest (dOp ninD (dVar 3) (dVar 1)))) (dDrop (dBM okL appendD (dVar 1) (dCons (dVar 3) dNil))) dNext)
def rd__law_terms_b1 : S1 :=
  (dFor (iSeq (dSl (dVar 2) dNoPart (dPart (dC (.int 2))))) (gN 3) rd__law_terms_b2)
def rd__law_terms_2 : S1 :=
  (dRet (dCall (on1 sortedD) (dCons (dVar 1) dNil)))
def rd__law_terms_1 : S1 :=
  dSeq (dFor (iSeq (dVar 0)) (gN 2) rd__law_terms_b1) rd__law_terms_2
def rd__law_terms : S1 :=
  dSeq (dAsg (dLst dNil) (gN 1)) rd__law_terms_1
/-! _law_closure: 0 _law_bounds, 1 _law_terms_here, 2 _law_found, 3 _law_l, 4 _law_r, 5 _law_gap, 6 _law_amid -/
def rd__law_closure_b2 : S1 :=
  (dAsg (dIf (dOrT (dTest (dOp eqD (dVar 3) (dVar 4))) (dTest (dOp eqD (dVar 3) (dC (.str (Str.ofString "0")))))) (dC (.int 0)) (dC (.int 9999))) (gSb (dVar 2) (dTup (dCons (dVar 3) (dCons (dVar 4) dNil))) setD))
def rd__law_closure_b1 : S1 :=
  (dFor (iSeq (dVar 1)) (gN 4) rd__law_closure_b2)
def rd__law_closure_b3 : S1 :=
  (dAsg (dCall (on2 min2D) (dCons (dOp ixD (dVar 2) (dTup (dCons (dVar 3) (dCons (dVar 4) dNil)))) (dCons (dVar 5) dNil))) (gSb (dVar 2) (dTup (dCons (dVar 3) (dCons (dVar 4) dNil))) setD))
def rd__law_closure_b6 : S1 :=
  (dAsg (dCall (on2 min2D) (dCons (dOp ixD (dVar 2) (dTup (dCons (dVar 3) (dCons (dVar 4) dNil)))) (dCons (dOp addD (dOp ixD (dVar 2) (dTup (dCons (dVar 3) (dCons (dVar 6) dNil)))) (dOp ixD (dVar 2) (dTup (dCons (dVar 6) (dCons (dVar 4) dNil))))) dNil))) (gSb (dVar 2) (dTup (dCons (dVar 3) (dCons (dVar 4) dNil))) setD))
def rd__law_closure_b5 : S1 :=
  (dFor (iSeq (dVar 1)) (gN 4) rd__law_closure_b6)
def rd__law_closure_b4 : S1 :=
  (dFor (iSeq (dVar 1)) (gN 3) rd__law_closure_b5)
def rd__law_closure_4 : S1 :=
  (dRet (dVar 2))
def rd__law_closure_3 : S1 :=
  dSeq (dFor (iSeq (dVar 1)) (gN 6) rd__law_closure_b4) rd__law_closure_4
def rd__law_closure_2 : S1 :=
  dSeq (dFor (iSeq (dVar 0)) (gTp 3 (gCn (gN 3) (gCn (gN 4) (gCn (gN 5) gNl)))) rd__law_closure_b3) rd__law_closure_3
def rd__law_closure_1 : S1 :=
  dSeq (dFor (iSeq (dVar 1)) (gN 3) rd__law_closure_b1) rd__law_closure_2
def rd__law_closure : S1 :=
  dSeq (dAsg dDic0 (gN 2)) rd__law_closure_1
/-! settle: 0 bounds, 1 terms, 2 rows, 3 worths, 4 front, 5 turn, 6 raised, 7 bound, 8 l, 9 r, 10 gap, 11 term -/
def rd_settle_b2_1 (sp_terms_of : P1) (sp_with_range : P1) (sp_ring_from : P1) : S1 :=
  (dIfS (dAndT (dTest (dOp inD (dVar 8) (dVar 3))) (dOrT (dTest (dOp ninD (dVar 9) (dVar 3))) (dTest (dOp gtD (dOp subD (dOp ixD (dVar 3) (dVar 8)) (dVar 10)) (dOp ixD (dVar 3) (dVar 9)))))) (dSeq (dAsg (dOp subD (dOp ixD (dVar 3) (dVar 8)) (dVar 10)) (gSb (dVar 3) (dVar 9) setD))
  (dSeq (dAsg (dVar 7) (gSb (dVar 4) (dVar 9) setD))
  (dAsg (dVar 9) (gN 6)))) dNext)
def rd_settle_b2 (sp_terms_of : P1) (sp_with_range : P1) (sp_ring_from : P1) : S1 :=
  dSeq (dAsg (dVar 7) (gTp 3 (gCn (gN 8) (gCn (gN 9) (gCn (gN 10) gNl))))) (rd_settle_b2_1 sp_terms_of sp_with_range sp_ring_from)
def rd_settle_b1_2 (sp_terms_of : P1) (sp_with_range : P1) (sp_ring_from : P1) : S1 :=
  (dIfS (dTest (dOp isD (dVar 6) (dC .none))) (dRet (dTup (dCons (dC (.str (Str.ofString "least"))) (dCons (dCall (on1 tupleD) (dCons (dLc (iSeq (dVar 1)) (gN 11) dYes (dTup (dCons (dVar 11) (dCons (dOp ixD (dVar 3) (dVar 11)) dNil))) [11]) dNil)) dNil)))) dNext)
def rd_settle_b1_1 (sp_terms_of : P1) (sp_with_range : P1) (sp_ring_from : P1) : S1 :=
  dSeq (dFor (iSeq (dVar 2)) (gN 7) (rd_settle_b2 sp_terms_of sp_with_range sp_ring_from)) (rd_settle_b1_2 sp_terms_of sp_with_range sp_ring_from)
def rd_settle_b1 (sp_terms_of : P1) (sp_with_range : P1) (sp_ring_from : P1) : S1 :=
  dSeq (dAsg (dC .none) (gN 6)) (rd_settle_b1_1 sp_terms_of sp_with_range sp_ring_from)
def rd_settle_5 (sp_terms_of : P1) (sp_with_range : P1) (sp_ring_from : P1) : S1 :=
  (dRet (dTup (dCons (dC (.str (Str.ofString "ring"))) (dCons (dCall sp_ring_from (dCons (dVar 4) (dCons (dVar 6) (dCons (dOp addD (dCall (on1 lenD) (dCons (dVar 1) dNil)) (dC (.int 1))) dNil)))) dNil))))
def rd_settle_4 (sp_terms_of : P1) (sp_with_range : P1) (sp_ring_from : P1) : S1 :=
  dSeq (dFor (iRg1 (dCons (dOp addD (dCall (on1 lenD) (dCons (dVar 1) dNil)) (dC (.int 2))) dNil)) (gN 5) (rd_settle_b1 sp_terms_of sp_with_range sp_ring_from)) (rd_settle_5 sp_terms_of sp_with_range sp_ring_from)
def rd_settle_3 (sp_terms_of : P1) (sp_with_range : P1) (sp_ring_from : P1) : S1 :=
  dSeq (dAsg dDic0 (gN 4)) (rd_settle_4 sp_terms_of sp_with_range sp_ring_from)
def rd_settle_2 (sp_terms_of : P1) (sp_with_range : P1) (sp_ring_from : P1) : S1 :=
  dSeq (dAsg (dDisp [((dC (.str (Str.ofString "0"))), (dC (.int 0)))]) (gN 3)) (rd_settle_3 sp_terms_of sp_with_range sp_ring_from)
def rd_settle_1 (sp_terms_of : P1) (sp_with_range : P1) (sp_ring_from : P1) : S1 :=
  dSeq (dAsg (dCall sp_with_range (dCons (dVar 0) (dCons (dVar 1) dNil))) (gN 2)) (rd_settle_2 sp_terms_of sp_with_range sp_ring_from)
def rd_settle (sp_terms_of : P1) (sp_with_range : P1) (sp_ring_from : P1) : S1 :=
  dSeq (dAsg (dCall sp_terms_of (dCons (dVar 0) dNil)) (gN 1)) (rd_settle_1 sp_terms_of sp_with_range sp_ring_from)
/-! _law_pick: 0 _law_d, 1 _law_row -/
def rd__law_pick (sp__law_draw : P1) : S1 :=
  (dRet (dOp ixD (dVar 1) (dCall sp__law_draw (dCons (dVar 0) (dCons (dCall (on1 lenD) (dCons (dVar 1) dNil)) dNil)))))
/-! _law_pop: 0 _law_d, 1 _law_row -/
def rd__law_pop (sp__law_draw : P1) : S1 :=
  (dRet (dBM okL popD (dVar 1) (dCons (dCall sp__law_draw (dCons (dVar 0) (dCons (dCall (on1 lenD) (dCons (dVar 1) dNil)) dNil))) dNil)))
/-! _law_is_rows: 0 _law_rows, 1 _law_kinds, 2 _law_row, 3 _law_part, 4 _law_kind -/
def rd__law_is_rows_b2_1 (sp__law_is_int : P1) : S1 :=
  (dIfS (dOrT (dAndT (dTest (dOp eqD (dVar 4) (dC (.str (Str.ofString "t"))))) (dNotT (dTru (dCall (on2 isiD) (dCons (dVar 3) (dCons (dC (.ty "tuple")) dNil)))))) (dAndT (dTest (dOp eqD (dVar 4) (dC (.str (Str.ofString "b"))))) (dNotT (dTru (dCall (on2 isiD) (dCons (dVar 3) (dCons (dC (.ty "bool")) dNil))))))) (dRet (dC (.bool false))) dNext)
def rd__law_is_rows_b2 (sp__law_is_int : P1) : S1 :=
  dSeq (dIfS (dOrT (dAndT (dTest (dOp eqD (dVar 4) (dC (.str (Str.ofString "s"))))) (dNotT (dTru (dCall (on2 isiD) (dCons (dVar 3) (dCons (dC (.ty "str")) dNil)))))) (dAndT (dTest (dOp eqD (dVar 4) (dC (.str (Str.ofString "i"))))) (dNotT (dTru (dCall sp__law_is_int (dCons (dVar 3) dNil)))))) (dRet (dC (.bool false))) dNext) (rd__law_is_rows_b2_1 sp__law_is_int)
def rd__law_is_rows_b1_1 (sp__law_is_int : P1) : S1 :=
  (dFor (iZs (dCons (dVar 2) (dCons (dVar 1) dNil))) (gTp 2 (gCn (gN 3) (gCn (gN 4) gNl))) (rd__law_is_rows_b2 sp__law_is_int))
def rd__law_is_rows_b1 (sp__law_is_int : P1) : S1 :=
  dSeq (dIfS (dOrT (dNotT (dTru (dCall (on2 isiD) (dCons (dVar 2) (dCons (dC (.ty "tuple")) dNil))))) (dTest (dOp neD (dCall (on1 lenD) (dCons (dVar 2) dNil)) (dCall (on1 lenD) (dCons (dVar 1) dNil))))) (dRet (dC (.bool false))) dNext) (rd__law_is_rows_b1_1 sp__law_is_int)
def rd__law_is_rows_2 (sp__law_is_int : P1) : S1 :=
  (dRet (dC (.bool true)))
def rd__law_is_rows_1 (sp__law_is_int : P1) : S1 :=
  dSeq (dFor (iSeq (dVar 0)) (gN 2) (rd__law_is_rows_b1 sp__law_is_int)) (rd__law_is_rows_2 sp__law_is_int)
def rd__law_is_rows (sp__law_is_int : P1) : S1 :=
  dSeq (dIfS (dNotT (dTru (dCall (on2 isiD) (dCons (dVar 0) (dCons (dC (.ty "tuple")) dNil))))) (dRet (dC (.bool false))) dNext) (rd__law_is_rows_1 sp__law_is_int)
/-! _law_ranged: 0 _law_bounds, 1 _law_found, 2 _law_term -/
def rd__law_ranged_b1_1 (sp__law_terms : P1) : S1 :=
  (dDrop (dBM okL appendD (dVar 1) (dCons (dTup (dCons (dVar 2) (dCons (dC (.str (Str.ofString "0"))) (dCons (dC (.int 9999)) dNil)))) dNil)))
def rd__law_ranged_b1 (sp__law_terms : P1) : S1 :=
  dSeq (dDrop (dBM okL appendD (dVar 1) (dCons (dTup (dCons (dC (.str (Str.ofString "0"))) (dCons (dVar 2) (dCons (dC (.int 0)) dNil)))) dNil))) (rd__law_ranged_b1_1 sp__law_terms)
def rd__law_ranged_2 (sp__law_terms : P1) : S1 :=
  (dRet (dVar 1))
def rd__law_ranged_1 (sp__law_terms : P1) : S1 :=
  dSeq (dFor (iSeq (dCall sp__law_terms (dCons (dVar 0) dNil))) (gN 2) (rd__law_ranged_b1 sp__law_terms)) (rd__law_ranged_2 sp__law_terms)
def rd__law_ranged (sp__law_terms : P1) : S1 :=
  dSeq (dAsg (dCall (on1 listD) (dCons (dVar 0) dNil)) (gN 1)) (rd__law_ranged_1 sp__law_terms)
/-! follows: 0 bounds, 1 bound, 2 word, 3 told -/
def rd_follows_1 (sp_settle : P1) (sp_opposite : P1) : S1 :=
  (dRet (dIf (dTest (dOp eqD (dVar 2) (dC (.str (Str.ofString "ring"))))) (dTup (dCons (dC (.str (Str.ofString "follows"))) (dCons (dVar 3) dNil))) (dTup (dCons (dC (.str (Str.ofString "breaks"))) (dCons (dVar 3) dNil)))))
def rd_follows (sp_settle : P1) (sp_opposite : P1) : S1 :=
  dSeq (dAsg (dCall sp_settle (dCons (dOp addD (dCall (on1 tupleD) (dCons (dVar 0) dNil)) (dTup (dCons (dCall sp_opposite (dCons (dVar 1) dNil)) dNil))) dNil)) (gTp 2 (gCn (gN 2) (gCn (gN 3) gNl)))) (rd_follows_1 sp_settle sp_opposite)
/-! _law_least_worths: 0 _law_bounds, 1 _law_rows, 2 _law_worths, 3 _law_term, 4 _law_k, 5 _law_moved, 6 _law_l, 7 _law_r, 8 _law_gap -/
def rd__law_least_worths_b1 (sp__law_ranged : P1) (sp__law_terms : P1) : S1 :=
  (dAsg (dC (.int 0)) (gSb (dVar 2) (dVar 3) setD))
def rd__law_least_worths_b3 (sp__law_ranged : P1) (sp__law_terms : P1) : S1 :=
  (dIfS (dTest (dOp gtD (dOp subD (dOp ixD (dVar 2) (dVar 6)) (dVar 8)) (dOp ixD (dVar 2) (dVar 7)))) (dSeq (dAsg (dOp subD (dOp ixD (dVar 2) (dVar 6)) (dVar 8)) (gSb (dVar 2) (dVar 7) setD))
  (dAsg (dC (.bool true)) (gN 5))) dNext)
def rd__law_least_worths_b2_3 (sp__law_ranged : P1) (sp__law_terms : P1) : S1 :=
  (dIfS (dNotT (dTru (dVar 5))) (dRet (dVar 2)) dNext)
def rd__law_least_worths_b2_2 (sp__law_ranged : P1) (sp__law_terms : P1) : S1 :=
  dSeq (dIfS (dTest (dOp gtD (dOp ixD (dVar 2) (dC (.str (Str.ofString "0")))) (dC (.int 0)))) (dRet (dC .none)) dNext) (rd__law_least_worths_b2_3 sp__law_ranged sp__law_terms)
def rd__law_least_worths_b2_1 (sp__law_ranged : P1) (sp__law_terms : P1) : S1 :=
  dSeq (dFor (iSeq (dVar 1)) (gTp 3 (gCn (gN 6) (gCn (gN 7) (gCn (gN 8) gNl)))) (rd__law_least_worths_b3 sp__law_ranged sp__law_terms)) (rd__law_least_worths_b2_2 sp__law_ranged sp__law_terms)
def rd__law_least_worths_b2 (sp__law_ranged : P1) (sp__law_terms : P1) : S1 :=
  dSeq (dAsg (dC (.bool false)) (gN 5)) (rd__law_least_worths_b2_1 sp__law_ranged sp__law_terms)
def rd__law_least_worths_4 (sp__law_ranged : P1) (sp__law_terms : P1) : S1 :=
  (dRet (dC .none))
def rd__law_least_worths_3 (sp__law_ranged : P1) (sp__law_terms : P1) : S1 :=
  dSeq (dFor (iRg1 (dCons (dOp addD (dCall (on1 lenD) (dCons (dVar 2) dNil)) (dC (.int 1))) dNil)) (gN 4) (rd__law_least_worths_b2 sp__law_ranged sp__law_terms)) (rd__law_least_worths_4 sp__law_ranged sp__law_terms)
def rd__law_least_worths_2 (sp__law_ranged : P1) (sp__law_terms : P1) : S1 :=
  dSeq (dFor (iSeq (dCall sp__law_terms (dCons (dVar 0) dNil))) (gN 3) (rd__law_least_worths_b1 sp__law_ranged sp__law_terms)) (rd__law_least_worths_3 sp__law_ranged sp__law_terms)
def rd__law_least_worths_1 (sp__law_ranged : P1) (sp__law_terms : P1) : S1 :=
  dSeq (dAsg (dDisp [((dC (.str (Str.ofString "0"))), (dC (.int 0)))]) (gN 2)) (rd__law_least_worths_2 sp__law_ranged sp__law_terms)
def rd__law_least_worths (sp__law_ranged : P1) (sp__law_terms : P1) : S1 :=
  dSeq (dAsg (dCall sp__law_ranged (dCons (dVar 0) dNil)) (gN 1)) (rd__law_least_worths_1 sp__law_ranged sp__law_terms)
/-! _law_is_ring: 0 _law_bounds, 1 _law_ring, 2 _law_rows, 3 _law_bound, 4 _law_k -/
def rd__law_is_ring_b1 (sp__law_ranged : P1) (sp__law_is_int : P1) : S1 :=
  (dIfS (dOrT (dNotT (dTru (dCall (on2 isiD) (dCons (dVar 3) (dCons (dC (.ty "tuple")) dNil))))) (dOrT (dTest (dOp neD (dCall (on1 lenD) (dCons (dVar 3) dNil)) (dC (.int 3)))) (dOrT (dNotT (dTru (dCall sp__law_is_int (dCons (dOp ixD (dVar 3) (dC (.int 2))) dNil)))) (dTest (dOp ninD (dVar 3) (dVar 2)))))) (dRet (dC (.bool false))) dNext)
def rd__law_is_ring_b2 (sp__law_ranged : P1) (sp__law_is_int : P1) : S1 :=
  (dIfS (dTest (dOp neD (dOp ixD (dOp ixD (dVar 1) (dVar 4)) (dC (.int 1))) (dOp ixD (dOp ixD (dVar 1) (dIf (dTest (dOp ltD (dOp addD (dVar 4) (dC (.int 1))) (dCall (on1 lenD) (dCons (dVar 1) dNil)))) (dOp addD (dVar 4) (dC (.int 1))) (dC (.int 0)))) (dC (.int 0))))) (dRet (dC (.bool false))) dNext)
def rd__law_is_ring_4 (sp__law_ranged : P1) (sp__law_is_int : P1) : S1 :=
  (dRet (dOp ltD (dCall (on1 sumD) (dCons (dLc (iSeq (dVar 1)) (gN 3) dYes (dOp ixD (dVar 3) (dC (.int 2))) [3]) dNil)) (dC (.int 0))))
def rd__law_is_ring_3 (sp__law_ranged : P1) (sp__law_is_int : P1) : S1 :=
  dSeq (dFor (iRg1 (dCons (dCall (on1 lenD) (dCons (dVar 1) dNil)) dNil)) (gN 4) (rd__law_is_ring_b2 sp__law_ranged sp__law_is_int)) (rd__law_is_ring_4 sp__law_ranged sp__law_is_int)
def rd__law_is_ring_2 (sp__law_ranged : P1) (sp__law_is_int : P1) : S1 :=
  dSeq (dFor (iSeq (dVar 1)) (gN 3) (rd__law_is_ring_b1 sp__law_ranged sp__law_is_int)) (rd__law_is_ring_3 sp__law_ranged sp__law_is_int)
def rd__law_is_ring_1 (sp__law_ranged : P1) (sp__law_is_int : P1) : S1 :=
  dSeq (dAsg (dCall sp__law_ranged (dCons (dVar 0) dNil)) (gN 2)) (rd__law_is_ring_2 sp__law_ranged sp__law_is_int)
def rd__law_is_ring (sp__law_ranged : P1) (sp__law_is_int : P1) : S1 :=
  dSeq (dIfS (dOrT (dNotT (dTru (dCall (on2 isiD) (dCons (dVar 1) (dCons (dC (.ty "tuple")) dNil))))) (dTest (dOp eqD (dCall (on1 lenD) (dCons (dVar 1) dNil)) (dC (.int 0))))) (dRet (dC (.bool false))) dNext) (rd__law_is_ring_1 sp__law_ranged sp__law_is_int)
/-! _law_drawn: 0 _law_d, 1 _law_terms_here, 2 _law_mood, 3 _law_worths, 4 _law_term, 5 _law_found, 6 _law_k, 7 _law_l, 8 _law_r, 9 _law_gap -/
def rd__law_drawn_b1 (sp__law_pick : P1) (sp__law_draw : P1) : S1 :=
  (dAsg (dCall sp__law_pick (dCons (dVar 0) (dCons (dLst (dCons (dC (.int 0)) (dCons (dC (.int 1)) (dCons (dC (.int 9998)) (dCons (dC (.int 9999)) (dCons (dCall sp__law_draw (dCons (dVar 0) (dCons (dC (.int 10000)) dNil))) (dCons (dCall sp__law_draw (dCons (dVar 0) (dCons (dC (.int 9)) dNil))) (dCons (dCall sp__law_draw (dCons (dVar 0) (dCons (dC (.int 9)) dNil))) dNil)))))))) dNil))) (gSb (dVar 3) (dVar 4) setD))
def rd__law_drawn_b2_4 (sp__law_pick : P1) (sp__law_draw : P1) : S1 :=
  (dDrop (dBM okL appendD (dVar 5) (dCons (dTup (dCons (dVar 7) (dCons (dVar 8) (dCons (dVar 9) dNil)))) dNil)))
def rd__law_drawn_b2_3 (sp__law_pick : P1) (sp__law_draw : P1) : S1 :=
  dSeq (dIfS (dAndT (dTest (dOp eqD (dVar 2) (dC (.int 1)))) (dTest (dOp eqD (dCall sp__law_draw (dCons (dVar 0) (dCons (dC (.int 6)) dNil))) (dC (.int 0))))) (dAsg (dCall sp__law_pick (dCons (dVar 0) (dCons (dLst (dCons (dOp subD (dCall sp__law_draw (dCons (dVar 0) (dCons (dC (.int 9)) dNil))) (dC (.int 5))) (dCons (dOp subD (dCall sp__law_draw (dCons (dVar 0) (dCons (dC (.int 40001)) dNil))) (dC (.int 20000))) (dCons (dC (.int 20000)) (dCons (dUn negD (dC (.int 20000))) dNil))))) dNil))) (gN 9)) dNext) (rd__law_drawn_b2_4 sp__law_pick sp__law_draw)
def rd__law_drawn_b2_2 (sp__law_pick : P1) (sp__law_draw : P1) : S1 :=
  dSeq (dAsg (dOp addD (dOp subD (dOp ixD (dVar 3) (dVar 7)) (dOp ixD (dVar 3) (dVar 8))) (dCall sp__law_pick (dCons (dVar 0) (dCons (dLst (dCons (dC (.int 0)) (dCons (dC (.int 0)) (dCons (dC (.int 1)) (dCons (dCall sp__law_draw (dCons (dVar 0) (dCons (dC (.int 5)) dNil))) (dCons (dCall sp__law_draw (dCons (dVar 0) (dCons (dC (.int 10001)) dNil))) dNil)))))) dNil)))) (gN 9)) (rd__law_drawn_b2_3 sp__law_pick sp__law_draw)
def rd__law_drawn_b2_1 (sp__law_pick : P1) (sp__law_draw : P1) : S1 :=
  dSeq (dAsg (dCall sp__law_pick (dCons (dVar 0) (dCons (dOp addD (dVar 1) (dLst (dCons (dC (.str (Str.ofString "0"))) dNil))) dNil))) (gN 8)) (rd__law_drawn_b2_2 sp__law_pick sp__law_draw)
def rd__law_drawn_b2 (sp__law_pick : P1) (sp__law_draw : P1) : S1 :=
  dSeq (dAsg (dCall sp__law_pick (dCons (dVar 0) (dCons (dOp addD (dVar 1) (dLst (dCons (dC (.str (Str.ofString "0"))) dNil))) dNil))) (gN 7)) (rd__law_drawn_b2_1 sp__law_pick sp__law_draw)
def rd__law_drawn_4 (sp__law_pick : P1) (sp__law_draw : P1) : S1 :=
  (dRet (dCall (on1 tupleD) (dCons (dVar 5) dNil)))
def rd__law_drawn_3 (sp__law_pick : P1) (sp__law_draw : P1) : S1 :=
  dSeq (dFor (iRg1 (dCons (dCall sp__law_draw (dCons (dVar 0) (dCons (dC (.int 10)) dNil))) dNil)) (gN 6) (rd__law_drawn_b2 sp__law_pick sp__law_draw)) (rd__law_drawn_4 sp__law_pick sp__law_draw)
def rd__law_drawn_2 (sp__law_pick : P1) (sp__law_draw : P1) : S1 :=
  dSeq (dAsg (dLst dNil) (gN 5)) (rd__law_drawn_3 sp__law_pick sp__law_draw)
def rd__law_drawn_1 (sp__law_pick : P1) (sp__law_draw : P1) : S1 :=
  dSeq (dFor (iSeq (dVar 1)) (gN 4) (rd__law_drawn_b1 sp__law_pick sp__law_draw)) (rd__law_drawn_2 sp__law_pick sp__law_draw)
def rd__law_drawn (sp__law_pick : P1) (sp__law_draw : P1) : S1 :=
  dSeq (dAsg (dDisp [((dC (.str (Str.ofString "0"))), (dC (.int 0)))]) (gN 3)) (rd__law_drawn_1 sp__law_pick sp__law_draw)
/-! _law_asked: 0 _law_d, 1 _law_terms_here, 2 _law_closure_here, 3 _law_can, 4 _law_l, 5 _law_r, 6 _law_way, 7 _law_near -/
def rd__law_asked_5 (sp__law_pick : P1) (sp__law_draw : P1) : S1 :=
  (dRet (dTup (dCons (dVar 4) (dCons (dVar 5) (dCons (dOp addD (dVar 7) (dOp ixD (dLst (dCons (dC (.int 0)) (dCons (dUn negD (dC (.int 1))) (dCons (dC (.int 0)) (dCons (dOp subD (dCall sp__law_draw (dCons (dVar 0) (dCons (dC (.int 9)) dNil))) (dC (.int 4))) dNil))))) (dVar 6))) dNil)))))
def rd__law_asked_4 (sp__law_pick : P1) (sp__law_draw : P1) : S1 :=
  dSeq (dAsg (dIf (dTru (dVar 3)) (dOp ixD (dVar 2) (dTup (dCons (dVar 4) (dCons (dVar 5) dNil)))) (dOp subD (dCall sp__law_draw (dCons (dVar 0) (dCons (dC (.int 9)) dNil))) (dC (.int 4)))) (gN 7)) (rd__law_asked_5 sp__law_pick sp__law_draw)
def rd__law_asked_3 (sp__law_pick : P1) (sp__law_draw : P1) : S1 :=
  dSeq (dIfS (dTest (dOp eqD (dVar 6) (dC (.int 4)))) (dRet (dTup (dCons (dVar 4) (dCons (dVar 5) (dCons (dOp subD (dCall sp__law_draw (dCons (dVar 0) (dCons (dC (.int 40001)) dNil))) (dC (.int 20000))) dNil))))) dNext) (rd__law_asked_4 sp__law_pick sp__law_draw)
def rd__law_asked_2 (sp__law_pick : P1) (sp__law_draw : P1) : S1 :=
  dSeq (dAsg (dCall sp__law_draw (dCons (dVar 0) (dCons (dC (.int 5)) dNil))) (gN 6)) (rd__law_asked_3 sp__law_pick sp__law_draw)
def rd__law_asked_1 (sp__law_pick : P1) (sp__law_draw : P1) : S1 :=
  dSeq (dAsg (dCall sp__law_pick (dCons (dVar 0) (dCons (dVar 1) dNil))) (gN 5)) (rd__law_asked_2 sp__law_pick sp__law_draw)
def rd__law_asked (sp__law_pick : P1) (sp__law_draw : P1) : S1 :=
  dSeq (dAsg (dCall sp__law_pick (dCons (dVar 0) (dCons (dVar 1) dNil))) (gN 4)) (rd__law_asked_1 sp__law_pick sp__law_draw)
/-! _law_worths_told: 0 _law_bounds, 1 _law_bound, 2 _law_pairs, 3 _law_worths, 4 _law_term, 5 _law_worth, 6 _law_l, 7 _law_r, 8 _law_gap -/
def rd__law_worths_told_b1_1 (sp__law_is_rows : P1) (sp__law_terms : P1) : S1 :=
  (dAsg (dVar 5) (gSb (dVar 3) (dVar 4) setD))
def rd__law_worths_told_b1 (sp__law_is_rows : P1) (sp__law_terms : P1) : S1 :=
  dSeq (dIfS (dOrT (dAndT (dTest (dOp inD (dVar 4) (dVar 3))) (dTest (dOp neD (dTup (dCons (dVar 4) (dCons (dVar 5) dNil))) (dTup (dCons (dC (.str (Str.ofString "0"))) (dCons (dC (.int 0)) dNil)))))) (dNotT (dTest (dChain leD leD (dC (.int 0)) (dVar 5) (dC (.int 9999)))))) (dRet (dC .none)) dNext) (rd__law_worths_told_b1_1 sp__law_is_rows sp__law_terms)
def rd__law_worths_told_b2 (sp__law_is_rows : P1) (sp__law_terms : P1) : S1 :=
  (dIfS (dTest (dOp gtD (dOp ixD (dVar 3) (dVar 6)) (dOp addD (dOp ixD (dVar 3) (dVar 7)) (dVar 8)))) (dRet (dC .none)) dNext)
def rd__law_worths_told_5 (sp__law_is_rows : P1) (sp__law_terms : P1) : S1 :=
  (dRet (dIf (dTest (dOp gtD (dOp ixD (dVar 3) (dOp ixD (dVar 1) (dC (.int 0)))) (dOp addD (dOp ixD (dVar 3) (dOp ixD (dVar 1) (dC (.int 1)))) (dOp ixD (dVar 1) (dC (.int 2)))))) (dVar 3) (dC .none)))
def rd__law_worths_told_4 (sp__law_is_rows : P1) (sp__law_terms : P1) : S1 :=
  dSeq (dFor (iSeq (dVar 0)) (gTp 3 (gCn (gN 6) (gCn (gN 7) (gCn (gN 8) gNl)))) (rd__law_worths_told_b2 sp__law_is_rows sp__law_terms)) (rd__law_worths_told_5 sp__law_is_rows sp__law_terms)
def rd__law_worths_told_3 (sp__law_is_rows : P1) (sp__law_terms : P1) : S1 :=
  dSeq (dIfS (dTest (dOp neD (dCall (on1 sortedD) (dCons (dVar 3) dNil)) (dCall (on1 sortedD) (dCons (dOp addD (dCall sp__law_terms (dCons (dOp addD (dVar 0) (dTup (dCons (dVar 1) dNil))) dNil)) (dLst (dCons (dC (.str (Str.ofString "0"))) dNil))) dNil)))) (dRet (dC .none)) dNext) (rd__law_worths_told_4 sp__law_is_rows sp__law_terms)
def rd__law_worths_told_2 (sp__law_is_rows : P1) (sp__law_terms : P1) : S1 :=
  dSeq (dFor (iSeq (dVar 2)) (gTp 2 (gCn (gN 4) (gCn (gN 5) gNl))) (rd__law_worths_told_b1 sp__law_is_rows sp__law_terms)) (rd__law_worths_told_3 sp__law_is_rows sp__law_terms)
def rd__law_worths_told_1 (sp__law_is_rows : P1) (sp__law_terms : P1) : S1 :=
  dSeq (dAsg (dDisp [((dC (.str (Str.ofString "0"))), (dC (.int 0)))]) (gN 3)) (rd__law_worths_told_2 sp__law_is_rows sp__law_terms)
def rd__law_worths_told (sp__law_is_rows : P1) (sp__law_terms : P1) : S1 :=
  dSeq (dIfS (dNotT (dTru (dCall sp__law_is_rows (dCons (dVar 2) (dCons (dC (.str (Str.ofString "si"))) dNil))))) (dRet (dC .none)) dNext) (rd__law_worths_told_1 sp__law_is_rows sp__law_terms)
/-! _law_follows: 0 _law_bounds, 1 _law_bound, 2 _law_least, 3 _law_told, 4 _law_more, 5 _law_terms_here, 6 _law_due, 7 _law_term -/
def rd__law_follows_6 (sp_follows : P1) (sp__law_is_ring : P1) (sp__law_terms : P1) (sp_settle : P1) : S1 :=
  (dRet (dOp eqD (dCall (on1 reprD) (dCons (dCall sp_settle (dCons (dOp addD (dVar 0) (dTup (dCons (dVar 1) dNil))) dNil)) dNil)) (dCall (on1 reprD) (dCons (dTup (dCons (dC (.str (Str.ofString "least"))) (dCons (dCall (on1 tupleD) (dCons (dVar 6) dNil)) dNil))) dNil))))
def rd__law_follows_5 (sp_follows : P1) (sp__law_is_ring : P1) (sp__law_terms : P1) (sp_settle : P1) : S1 :=
  dSeq (dAsg (dLc (iSeq (dVar 5)) (gN 7) dYes (dTup (dCons (dVar 7) (dCons (dIf (dTest (dOp inD (dVar 7) (dVar 2))) (dOp ixD (dVar 2) (dVar 7)) (dC (.int 0))) dNil))) [7]) (gN 6)) (rd__law_follows_6 sp_follows sp__law_is_ring sp__law_terms sp_settle)
def rd__law_follows_4 (sp_follows : P1) (sp__law_is_ring : P1) (sp__law_terms : P1) (sp_settle : P1) : S1 :=
  dSeq (dAsg (dCall sp__law_terms (dCons (dOp addD (dVar 0) (dTup (dCons (dVar 1) dNil))) dNil)) (gN 5)) (rd__law_follows_5 sp_follows sp__law_is_ring sp__law_terms sp_settle)
def rd__law_follows_3 (sp_follows : P1) (sp__law_is_ring : P1) (sp__law_terms : P1) (sp_settle : P1) : S1 :=
  dSeq (dIfS (dTest (dOp isD (dVar 2) (dC .none))) (dRet (dC (.bool true))) dNext) (rd__law_follows_4 sp_follows sp__law_is_ring sp__law_terms sp_settle)
def rd__law_follows_2 (sp_follows : P1) (sp__law_is_ring : P1) (sp__law_terms : P1) (sp_settle : P1) : S1 :=
  dSeq (dIfS (dOrT (dNotT (dTru (dCall (on2 isiD) (dCons (dVar 3) (dCons (dC (.ty "tuple")) dNil))))) (dOrT (dTest (dOp neD (dCall (on1 lenD) (dCons (dVar 3) dNil)) (dC (.int 2)))) (dOrT (dTest (dOp neD (dOp ixD (dVar 3) (dC (.int 0))) (dC (.str (Str.ofString "follows"))))) (dNotT (dTru (dCall sp__law_is_ring (dCons (dVar 4) (dCons (dOp ixD (dVar 3) (dC (.int 1))) dNil)))))))) (dRet (dC (.bool false))) dNext) (rd__law_follows_3 sp_follows sp__law_is_ring sp__law_terms sp_settle)
def rd__law_follows_1 (sp_follows : P1) (sp__law_is_ring : P1) (sp__law_terms : P1) (sp_settle : P1) : S1 :=
  dSeq (dAsg (dOp addD (dVar 0) (dTup (dCons (dTup (dCons (dOp ixD (dVar 1) (dC (.int 1))) (dCons (dOp ixD (dVar 1) (dC (.int 0))) (dCons (dOp subD (dUn negD (dOp ixD (dVar 1) (dC (.int 2)))) (dC (.int 1))) dNil)))) dNil))) (gN 4)) (rd__law_follows_2 sp_follows sp__law_is_ring sp__law_terms sp_settle)
def rd__law_follows (sp_follows : P1) (sp__law_is_ring : P1) (sp__law_terms : P1) (sp_settle : P1) : S1 :=
  dSeq (dAsg (dCall sp_follows (dCons (dVar 0) (dCons (dVar 1) dNil))) (gN 3)) (rd__law_follows_1 sp_follows sp__law_is_ring sp__law_terms sp_settle)
/-! _law_breaks_by: 0 _law_bounds, 1 _law_bound, 2 _law_told, 3 _law_worths, 4 _law_pairs, 5 _law_fixed, 6 _law_again, 7 _law_other, 8 _law_term, 9 _law_pair -/
def rd__law_breaks_by_12 (sp_follows : P1) (sp__law_worths_told : P1) (sp__law_terms : P1) (sp_settle : P1) (sp__law_is_ring : P1) : S1 :=
  (dRet (dCall sp__law_is_ring (dCons (dOp addD (dOp addD (dVar 0) (dVar 5)) (dTup (dCons (dVar 1) dNil))) (dCons (dOp ixD (dVar 7) (dC (.int 1))) dNil))))
def rd__law_breaks_by_11 (sp_follows : P1) (sp__law_worths_told : P1) (sp__law_terms : P1) (sp_settle : P1) (sp__law_is_ring : P1) : S1 :=
  dSeq (dIfS (dOrT (dNotT (dTru (dCall (on2 isiD) (dCons (dVar 7) (dCons (dC (.ty "tuple")) dNil))))) (dOrT (dTest (dOp neDX (dCall (on1 lenD) (dCons (dVar 7) dNil)) (dC (.int 2)))) (dTest (dOp neDX (dOp ixD (dVar 7) (dC (.int 0))) (dC (.str (Str.ofString "follows"))))))) (dRet (dC (.bool false))) dNext) (rd__law_breaks_by_12 sp_follows sp__law_worths_told sp__law_terms sp_settle sp__law_is_ring)
def rd__law_breaks_by_10 (sp_follows : P1) (sp__law_worths_told : P1) (sp__law_terms : P1) (sp_settle : P1) (sp__law_is_ring : P1) : S1 :=
  dSeq (dAsg (dCall sp_follows (dCons (dOp addD (dVar 0) (dVar 5)) (dCons (dTup (dCons (dOp ixD (dVar 1) (dC (.int 1))) (dCons (dOp ixD (dVar 1) (dC (.int 0))) (dCons (dOp subD (dUn negD (dOp ixD (dVar 1) (dC (.int 2)))) (dC (.int 1))) dNil)))) dNil))) (gN 7)) (rd__law_breaks_by_11 sp_follows sp__law_worths_told sp__law_terms sp_settle sp__law_is_ring)
def rd__law_breaks_by_9 (sp_follows : P1) (sp__law_worths_told : P1) (sp__law_terms : P1) (sp_settle : P1) (sp__law_is_ring : P1) : S1 :=
  dSeq (dIfS (dTest (dOp neDX (dCall sp__law_worths_told (dCons (dOp addD (dVar 5) (dVar 0)) (dCons (dVar 1) (dCons (dOp ixD (dVar 6) (dC (.int 1))) dNil)))) (dVar 3))) (dRet (dC (.bool false))) dNext) (rd__law_breaks_by_10 sp_follows sp__law_worths_told sp__law_terms sp_settle sp__law_is_ring)
def rd__law_breaks_by_8 (sp_follows : P1) (sp__law_worths_told : P1) (sp__law_terms : P1) (sp_settle : P1) (sp__law_is_ring : P1) : S1 :=
  dSeq (dIfS (dOrT (dNotT (dTru (dCall (on2 isiD) (dCons (dVar 6) (dCons (dC (.ty "tuple")) dNil))))) (dOrT (dTest (dOp neDX (dCall (on1 lenD) (dCons (dVar 6) dNil)) (dC (.int 2)))) (dTest (dOp neDX (dOp ixD (dVar 6) (dC (.int 0))) (dC (.str (Str.ofString "breaks"))))))) (dRet (dC (.bool false))) dNext) (rd__law_breaks_by_9 sp_follows sp__law_worths_told sp__law_terms sp_settle sp__law_is_ring)
def rd__law_breaks_by_7 (sp_follows : P1) (sp__law_worths_told : P1) (sp__law_terms : P1) (sp_settle : P1) (sp__law_is_ring : P1) : S1 :=
  dSeq (dAsg (dCall sp_follows (dCons (dOp addD (dVar 5) (dVar 0)) (dCons (dVar 1) dNil))) (gN 6)) (rd__law_breaks_by_8 sp_follows sp__law_worths_told sp__law_terms sp_settle sp__law_is_ring)
def rd__law_breaks_by_6 (sp_follows : P1) (sp__law_worths_told : P1) (sp__law_terms : P1) (sp_settle : P1) (sp__law_is_ring : P1) : S1 :=
  dSeq (dIfS (dTest (dOp neDX (dCall (on1 reprD) (dCons (dCall sp_settle (dCons (dOp addD (dVar 0) (dVar 5)) dNil)) dNil)) (dCall (on1 reprD) (dCons (dTup (dCons (dC (.str (Str.ofString "least"))) (dCons (dCall (on1 tupleD) (dCons (dVar 4) dNil)) dNil))) dNil)))) (dRet (dC (.bool false))) dNext) (rd__law_breaks_by_7 sp_follows sp__law_worths_told sp__law_terms sp_settle sp__law_is_ring)
def rd__law_breaks_by_5 (sp_follows : P1) (sp__law_worths_told : P1) (sp__law_terms : P1) (sp_settle : P1) (sp__law_is_ring : P1) : S1 :=
  dSeq (dAsg (dCall (on1 tupleD) (dCons (dOp addD (dLc (iSeq (dVar 4)) (gN 9) dYes (dTup (dCons (dOp ixD (dVar 9) (dC (.int 0))) (dCons (dC (.str (Str.ofString "0"))) (dCons (dOp ixD (dVar 9) (dC (.int 1))) dNil)))) [9]) (dLc (iSeq (dVar 4)) (gN 9) dYes (dTup (dCons (dC (.str (Str.ofString "0"))) (dCons (dOp ixD (dVar 9) (dC (.int 0))) (dCons (dUn negD (dOp ixD (dVar 9) (dC (.int 1)))) dNil)))) [9])) dNil)) (gN 5)) (rd__law_breaks_by_6 sp_follows sp__law_worths_told sp__law_terms sp_settle sp__law_is_ring)
def rd__law_breaks_by_4 (sp_follows : P1) (sp__law_worths_told : P1) (sp__law_terms : P1) (sp_settle : P1) (sp__law_is_ring : P1) : S1 :=
  dSeq (dAsg (dLc (iSeq (dCall sp__law_terms (dCons (dOp addD (dVar 0) (dTup (dCons (dVar 1) dNil))) dNil))) (gN 8) dYes (dTup (dCons (dVar 8) (dCons (dOp ixD (dVar 3) (dVar 8)) dNil))) [8]) (gN 4)) (rd__law_breaks_by_5 sp_follows sp__law_worths_told sp__law_terms sp_settle sp__law_is_ring)
def rd__law_breaks_by_3 (sp_follows : P1) (sp__law_worths_told : P1) (sp__law_terms : P1) (sp_settle : P1) (sp__law_is_ring : P1) : S1 :=
  dSeq (dIfS (dTest (dOp isD (dVar 3) (dC .none))) (dRet (dC (.bool false))) dNext) (rd__law_breaks_by_4 sp_follows sp__law_worths_told sp__law_terms sp_settle sp__law_is_ring)
def rd__law_breaks_by_2 (sp_follows : P1) (sp__law_worths_told : P1) (sp__law_terms : P1) (sp_settle : P1) (sp__law_is_ring : P1) : S1 :=
  dSeq (dAsg (dCall sp__law_worths_told (dCons (dVar 0) (dCons (dVar 1) (dCons (dOp ixD (dVar 2) (dC (.int 1))) dNil)))) (gN 3)) (rd__law_breaks_by_3 sp_follows sp__law_worths_told sp__law_terms sp_settle sp__law_is_ring)
def rd__law_breaks_by_1 (sp_follows : P1) (sp__law_worths_told : P1) (sp__law_terms : P1) (sp_settle : P1) (sp__law_is_ring : P1) : S1 :=
  dSeq (dIfS (dOrT (dNotT (dTru (dCall (on2 isiD) (dCons (dVar 2) (dCons (dC (.ty "tuple")) dNil))))) (dOrT (dTest (dOp neDX (dCall (on1 lenD) (dCons (dVar 2) dNil)) (dC (.int 2)))) (dTest (dOp neDX (dOp ixD (dVar 2) (dC (.int 0))) (dC (.str (Str.ofString "breaks"))))))) (dRet (dC (.bool false))) dNext) (rd__law_breaks_by_2 sp_follows sp__law_worths_told sp__law_terms sp_settle sp__law_is_ring)
def rd__law_breaks_by (sp_follows : P1) (sp__law_worths_told : P1) (sp__law_terms : P1) (sp_settle : P1) (sp__law_is_ring : P1) : S1 :=
  dSeq (dAsg (dCall sp_follows (dCons (dVar 0) (dCons (dVar 1) dNil))) (gN 2)) (rd__law_breaks_by_1 sp_follows sp__law_worths_told sp__law_terms sp_settle sp__law_is_ring)
/-! law: 0 _law_script, 1 _law_d, 2 _law_odd, 3 _law_terms_here, 4 _law_bounds, 5 _law_every, 6 _law_closure_here, 7 _law_can, 8 _law_least, 9 _law_asked_here, 10 _law_shown, 11 _law_bound, 12 _law_k, 13 _law_term -/
def rd_law_b1 (sp__law_begin : P1) (sp__law_draw : P1) (sp__law_pop : P1) (sp__law_drawn : P1) (sp__law_closure : P1) (sp__law_least_worths : P1) (sp__law_asked : P1) (sp_follows : P1) (sp__law_follows : P1) (sp__law_breaks_by : P1) : S1 :=
  (dIfS (dOrT (dNotT (dTru (dVar 7))) (dTest (dOp leD (dOp ixD (dVar 6) (dTup (dCons (dOp ixD (dVar 11) (dC (.int 0))) (dCons (dOp ixD (dVar 11) (dC (.int 1))) dNil)))) (dOp ixD (dVar 11) (dC (.int 2)))))) (dIfS (dNotT (dTru (dCall sp__law_follows (dCons (dVar 4) (dCons (dVar 11) (dCons (dVar 8) dNil)))))) (dRet (dC (.bool false))) dNext) (dIfS (dNotT (dTru (dCall sp__law_breaks_by (dCons (dVar 4) (dCons (dVar 11) dNil))))) (dRet (dC (.bool false))) dNext))
def rd_law_b2 (sp__law_begin : P1) (sp__law_draw : P1) (sp__law_pop : P1) (sp__law_drawn : P1) (sp__law_closure : P1) (sp__law_least_worths : P1) (sp__law_asked : P1) (sp_follows : P1) (sp__law_follows : P1) (sp__law_breaks_by : P1) : S1 :=
  (dIfS (dNotT (dTru (dCall sp__law_follows (dCons (dVar 4) (dCons (dVar 11) (dCons (dVar 8) dNil)))))) (dRet (dC (.bool false))) dNext)
def rd_law_12 (sp__law_begin : P1) (sp__law_draw : P1) (sp__law_pop : P1) (sp__law_drawn : P1) (sp__law_closure : P1) (sp__law_least_worths : P1) (sp__law_asked : P1) (sp_follows : P1) (sp__law_follows : P1) (sp__law_breaks_by : P1) : S1 :=
  (dRet (dOp eqD (dCall (on1 reprD) (dCons (dCall sp_follows (dCons (dVar 4) (dCons (dOp ixD (dVar 9) (dC (.int 0))) dNil))) dNil)) (dVar 10)))
def rd_law_11 (sp__law_begin : P1) (sp__law_draw : P1) (sp__law_pop : P1) (sp__law_drawn : P1) (sp__law_closure : P1) (sp__law_least_worths : P1) (sp__law_asked : P1) (sp_follows : P1) (sp__law_follows : P1) (sp__law_breaks_by : P1) : S1 :=
  dSeq (dFor (iSeq (dSl (dVar 4) dNoPart (dPart (dC (.int 2))))) (gN 11) (rd_law_b2 sp__law_begin sp__law_draw sp__law_pop sp__law_drawn sp__law_closure sp__law_least_worths sp__law_asked sp_follows sp__law_follows sp__law_breaks_by)) (rd_law_12 sp__law_begin sp__law_draw sp__law_pop sp__law_drawn sp__law_closure sp__law_least_worths sp__law_asked sp_follows sp__law_follows sp__law_breaks_by)
def rd_law_10 (sp__law_begin : P1) (sp__law_draw : P1) (sp__law_pop : P1) (sp__law_drawn : P1) (sp__law_closure : P1) (sp__law_least_worths : P1) (sp__law_asked : P1) (sp_follows : P1) (sp__law_follows : P1) (sp__law_breaks_by : P1) : S1 :=
  dSeq (dFor (iSeq (dVar 9)) (gN 11) (rd_law_b1 sp__law_begin sp__law_draw sp__law_pop sp__law_drawn sp__law_closure sp__law_least_worths sp__law_asked sp_follows sp__law_follows sp__law_breaks_by)) (rd_law_11 sp__law_begin sp__law_draw sp__law_pop sp__law_drawn sp__law_closure sp__law_least_worths sp__law_asked sp_follows sp__law_follows sp__law_breaks_by)
def rd_law_9 (sp__law_begin : P1) (sp__law_draw : P1) (sp__law_pop : P1) (sp__law_drawn : P1) (sp__law_closure : P1) (sp__law_least_worths : P1) (sp__law_asked : P1) (sp_follows : P1) (sp__law_follows : P1) (sp__law_breaks_by : P1) : S1 :=
  dSeq (dAsg (dCall (on1 reprD) (dCons (dCall sp_follows (dCons (dVar 4) (dCons (dOp ixD (dVar 9) (dC (.int 0))) dNil))) dNil)) (gN 10)) (rd_law_10 sp__law_begin sp__law_draw sp__law_pop sp__law_drawn sp__law_closure sp__law_least_worths sp__law_asked sp_follows sp__law_follows sp__law_breaks_by)
def rd_law_8 (sp__law_begin : P1) (sp__law_draw : P1) (sp__law_pop : P1) (sp__law_drawn : P1) (sp__law_closure : P1) (sp__law_least_worths : P1) (sp__law_asked : P1) (sp_follows : P1) (sp__law_follows : P1) (sp__law_breaks_by : P1) : S1 :=
  dSeq (dAsg (dLc (iRg1 (dCons (dC (.int 5)) dNil)) (gN 12) dYes (dCall sp__law_asked (dCons (dVar 1) (dCons (dVar 5) (dCons (dVar 6) (dCons (dVar 7) dNil))))) [12]) (gN 9)) (rd_law_9 sp__law_begin sp__law_draw sp__law_pop sp__law_drawn sp__law_closure sp__law_least_worths sp__law_asked sp_follows sp__law_follows sp__law_breaks_by)
def rd_law_7 (sp__law_begin : P1) (sp__law_draw : P1) (sp__law_pop : P1) (sp__law_drawn : P1) (sp__law_closure : P1) (sp__law_least_worths : P1) (sp__law_asked : P1) (sp_follows : P1) (sp__law_follows : P1) (sp__law_breaks_by : P1) : S1 :=
  dSeq (dAsg (dCall sp__law_least_worths (dCons (dVar 4) dNil)) (gN 8)) (rd_law_8 sp__law_begin sp__law_draw sp__law_pop sp__law_drawn sp__law_closure sp__law_least_worths sp__law_asked sp_follows sp__law_follows sp__law_breaks_by)
def rd_law_6 (sp__law_begin : P1) (sp__law_draw : P1) (sp__law_pop : P1) (sp__law_drawn : P1) (sp__law_closure : P1) (sp__law_least_worths : P1) (sp__law_asked : P1) (sp_follows : P1) (sp__law_follows : P1) (sp__law_breaks_by : P1) : S1 :=
  dSeq (dAsg (dCall (on1 allD) (dCons (dLc (iSeq (dVar 5)) (gN 13) dYes (dOp geD (dOp ixD (dVar 6) (dTup (dCons (dVar 13) (dCons (dVar 13) dNil)))) (dC (.int 0))) [13]) dNil)) (gN 7)) (rd_law_7 sp__law_begin sp__law_draw sp__law_pop sp__law_drawn sp__law_closure sp__law_least_worths sp__law_asked sp_follows sp__law_follows sp__law_breaks_by)
def rd_law_5 (sp__law_begin : P1) (sp__law_draw : P1) (sp__law_pop : P1) (sp__law_drawn : P1) (sp__law_closure : P1) (sp__law_least_worths : P1) (sp__law_asked : P1) (sp_follows : P1) (sp__law_follows : P1) (sp__law_breaks_by : P1) : S1 :=
  dSeq (dAsg (dCall sp__law_closure (dCons (dVar 4) (dCons (dVar 5) dNil))) (gN 6)) (rd_law_6 sp__law_begin sp__law_draw sp__law_pop sp__law_drawn sp__law_closure sp__law_least_worths sp__law_asked sp_follows sp__law_follows sp__law_breaks_by)
def rd_law_4 (sp__law_begin : P1) (sp__law_draw : P1) (sp__law_pop : P1) (sp__law_drawn : P1) (sp__law_closure : P1) (sp__law_least_worths : P1) (sp__law_asked : P1) (sp_follows : P1) (sp__law_follows : P1) (sp__law_breaks_by : P1) : S1 :=
  dSeq (dAsg (dOp addD (dVar 3) (dLst (dCons (dC (.str (Str.ofString "0"))) (dCons (dC (.str (Str.ofString "new"))) dNil)))) (gN 5)) (rd_law_5 sp__law_begin sp__law_draw sp__law_pop sp__law_drawn sp__law_closure sp__law_least_worths sp__law_asked sp_follows sp__law_follows sp__law_breaks_by)
def rd_law_3 (sp__law_begin : P1) (sp__law_draw : P1) (sp__law_pop : P1) (sp__law_drawn : P1) (sp__law_closure : P1) (sp__law_least_worths : P1) (sp__law_asked : P1) (sp_follows : P1) (sp__law_follows : P1) (sp__law_breaks_by : P1) : S1 :=
  dSeq (dAsg (dCall sp__law_drawn (dCons (dVar 1) (dCons (dVar 3) (dCons (dCall sp__law_draw (dCons (dVar 1) (dCons (dC (.int 2)) dNil))) dNil)))) (gN 4)) (rd_law_4 sp__law_begin sp__law_draw sp__law_pop sp__law_drawn sp__law_closure sp__law_least_worths sp__law_asked sp_follows sp__law_follows sp__law_breaks_by)
def rd_law_2 (sp__law_begin : P1) (sp__law_draw : P1) (sp__law_pop : P1) (sp__law_drawn : P1) (sp__law_closure : P1) (sp__law_least_worths : P1) (sp__law_asked : P1) (sp_follows : P1) (sp__law_follows : P1) (sp__law_breaks_by : P1) : S1 :=
  dSeq (dAsg (dLc (iRg1 (dCons (dCall sp__law_draw (dCons (dVar 1) (dCons (dC (.int 5)) dNil))) dNil)) (gN 12) dYes (dCall sp__law_pop (dCons (dVar 1) (dCons (dVar 2) dNil))) [12]) (gN 3)) (rd_law_3 sp__law_begin sp__law_draw sp__law_pop sp__law_drawn sp__law_closure sp__law_least_worths sp__law_asked sp_follows sp__law_follows sp__law_breaks_by)
def rd_law_1 (sp__law_begin : P1) (sp__law_draw : P1) (sp__law_pop : P1) (sp__law_drawn : P1) (sp__law_closure : P1) (sp__law_least_worths : P1) (sp__law_asked : P1) (sp_follows : P1) (sp__law_follows : P1) (sp__law_breaks_by : P1) : S1 :=
  dSeq (dAsg (dLst (dCons (dC (.str (Str.ofString "a"))) (dCons (dC (.str (Str.ofString "now"))) (dCons (dC (.str (Str.ofString "asker.level"))) (dCons (dC (.str (Str.ofString "thing.level"))) (dCons (dC (.str (Str.ofString "00"))) (dCons (dC (.str (Str.ofString ""))) (dCons (dC (.str (Str.ofString "zz"))) (dCons (dC (.str (Str.ofString "b"))) dNil))))))))) (gN 2)) (rd_law_2 sp__law_begin sp__law_draw sp__law_pop sp__law_drawn sp__law_closure sp__law_least_worths sp__law_asked sp_follows sp__law_follows sp__law_breaks_by)
def rd_law (sp__law_begin : P1) (sp__law_draw : P1) (sp__law_pop : P1) (sp__law_drawn : P1) (sp__law_closure : P1) (sp__law_least_worths : P1) (sp__law_asked : P1) (sp_follows : P1) (sp__law_follows : P1) (sp__law_breaks_by : P1) : S1 :=
  dSeq (dAsg (dCall sp__law_begin (dCons (dVar 0) dNil)) (gN 1)) (rd_law_1 sp__law_begin sp__law_draw sp__law_pop sp__law_drawn sp__law_closure sp__law_least_worths sp__law_asked sp_follows sp__law_follows sp__law_breaks_by)
end DL
namespace DL
open PySem PySem.Spec PyProof.Rows L2
def topS (i : Nat) : Stmt := PySem.Challenge.pw_leaveledger_k43_whole_follows.main.body.getD i (.Pass ⟨0, 0, 0, 0⟩)
structure Blt (mg : Str → Option Value) : Prop where
  n_sorted : mg "sorted" = none
  n_list : mg "list" = none
  n_range : mg "range" = none
  n_tuple : mg "tuple" = none
  n_len : mg "len" = none
  n_int : mg "int" = none
  n_abs : mg "abs" = none
  n_isinstance : mg "isinstance" = none
  n_bool : mg "bool" = none
  n_zip : mg "zip" = none
  n_str : mg "str" = none
  n_sum : mg "sum" = none
  n_min : mg "min" = none
  n_repr : mg "repr" = none
  n_all : mg "all" = none
  k_TOP : ∃ t, mg "TOP" = some (.int 9999 t)
abbrev s_terms_of : Stmt := topS 2
theorem sc_terms_of : FnScope ["bounds", "found", "l", "r", "gap", "term"] ["bounds"] (defScope s_terms_of) := ⟨rfl, rfl, rfl, by decide +kernel, rfl, by decide +kernel, by decide +kernel⟩
abbrev s_with_range : Stmt := topS 3
theorem sc_with_range : FnScope ["bounds", "terms", "found", "term"] ["bounds", "terms"] (defScope s_with_range) := ⟨rfl, rfl, rfl, by decide +kernel, rfl, by decide +kernel, by decide +kernel⟩
abbrev s_ring_from : Stmt := topS 4
theorem sc_ring_from : FnScope ["front", "term", "many", "turn", "ring"] ["front", "term", "many"] (defScope s_ring_from) := ⟨rfl, rfl, rfl, by decide +kernel, rfl, by decide +kernel, by decide +kernel⟩
abbrev s_opposite : Stmt := topS 7
theorem sc_opposite : FnScope ["bound", "l", "r", "gap"] ["bound"] (defScope s_opposite) := ⟨rfl, rfl, rfl, by decide +kernel, rfl, by decide +kernel, by decide +kernel⟩
abbrev s__law_begin : Stmt := topS 10
theorem sc__law_begin : FnScope ["_law_script", "_law_cell"] ["_law_script"] (defScope s__law_begin) := ⟨rfl, rfl, rfl, by decide +kernel, rfl, by decide +kernel, by decide +kernel⟩
abbrev s__law_draw : Stmt := topS 11
theorem sc__law_draw : FnScope ["_law_d", "_law_many", "_law_found", "_law_size", "_law_cell"] ["_law_d", "_law_many"] (defScope s__law_draw) := ⟨rfl, rfl, rfl, by decide +kernel, rfl, by decide +kernel, by decide +kernel⟩
abbrev s__law_is_int : Stmt := topS 14
theorem sc__law_is_int : FnScope ["_law_thing"] ["_law_thing"] (defScope s__law_is_int) := ⟨rfl, rfl, rfl, by decide +kernel, rfl, by decide +kernel, by decide +kernel⟩
abbrev s__law_terms : Stmt := topS 16
theorem sc__law_terms : FnScope ["_law_bounds", "_law_found", "_law_bound", "_law_term"] ["_law_bounds"] (defScope s__law_terms) := ⟨rfl, rfl, rfl, by decide +kernel, rfl, by decide +kernel, by decide +kernel⟩
abbrev s__law_closure : Stmt := topS 20
theorem sc__law_closure : FnScope ["_law_bounds", "_law_terms_here", "_law_found", "_law_l", "_law_r", "_law_gap", "_law_amid"] ["_law_bounds", "_law_terms_here"] (defScope s__law_closure) := ⟨rfl, rfl, rfl, by decide +kernel, rfl, by decide +kernel, by decide +kernel⟩
abbrev s_settle : Stmt := topS 5
theorem sc_settle : FnScope ["bounds", "terms", "rows", "worths", "front", "turn", "raised", "bound", "l", "r", "gap", "term"] ["bounds"] (defScope s_settle) := ⟨rfl, rfl, rfl, by decide +kernel, rfl, by decide +kernel, by decide +kernel⟩
abbrev s__law_pick : Stmt := topS 12
theorem sc__law_pick : FnScope ["_law_d", "_law_row"] ["_law_d", "_law_row"] (defScope s__law_pick) := ⟨rfl, rfl, rfl, by decide +kernel, rfl, by decide +kernel, by decide +kernel⟩
abbrev s__law_pop : Stmt := topS 13
theorem sc__law_pop : FnScope ["_law_d", "_law_row"] ["_law_d", "_law_row"] (defScope s__law_pop) := ⟨rfl, rfl, rfl, by decide +kernel, rfl, by decide +kernel, by decide +kernel⟩
abbrev s__law_is_rows : Stmt := topS 15
theorem sc__law_is_rows : FnScope ["_law_rows", "_law_kinds", "_law_row", "_law_part", "_law_kind"] ["_law_rows", "_law_kinds"] (defScope s__law_is_rows) := ⟨rfl, rfl, rfl, by decide +kernel, rfl, by decide +kernel, by decide +kernel⟩
abbrev s__law_ranged : Stmt := topS 17
theorem sc__law_ranged : FnScope ["_law_bounds", "_law_found", "_law_term"] ["_law_bounds"] (defScope s__law_ranged) := ⟨rfl, rfl, rfl, by decide +kernel, rfl, by decide +kernel, by decide +kernel⟩
abbrev s_follows : Stmt := topS 8
theorem sc_follows : FnScope ["bounds", "bound", "word", "told"] ["bounds", "bound"] (defScope s_follows) := ⟨rfl, rfl, rfl, by decide +kernel, rfl, by decide +kernel, by decide +kernel⟩
abbrev s__law_least_worths : Stmt := topS 18
theorem sc__law_least_worths : FnScope ["_law_bounds", "_law_rows", "_law_worths", "_law_term", "_law_k", "_law_moved", "_law_l", "_law_r", "_law_gap"] ["_law_bounds"] (defScope s__law_least_worths) := ⟨rfl, rfl, rfl, by decide +kernel, rfl, by decide +kernel, by decide +kernel⟩
abbrev s__law_is_ring : Stmt := topS 19
theorem sc__law_is_ring : FnScope ["_law_bounds", "_law_ring", "_law_rows", "_law_bound", "_law_k"] ["_law_bounds", "_law_ring"] (defScope s__law_is_ring) := ⟨rfl, rfl, rfl, by decide +kernel, rfl, by decide +kernel, by decide +kernel⟩
abbrev s__law_drawn : Stmt := topS 21
theorem sc__law_drawn : FnScope ["_law_d", "_law_terms_here", "_law_mood", "_law_worths", "_law_term", "_law_found", "_law_k", "_law_l", "_law_r", "_law_gap"] ["_law_d", "_law_terms_here", "_law_mood"] (defScope s__law_drawn) := ⟨rfl, rfl, rfl, by decide +kernel, rfl, by decide +kernel, by decide +kernel⟩
abbrev s__law_asked : Stmt := topS 22
theorem sc__law_asked : FnScope ["_law_d", "_law_terms_here", "_law_closure_here", "_law_can", "_law_l", "_law_r", "_law_way", "_law_near"] ["_law_d", "_law_terms_here", "_law_closure_here", "_law_can"] (defScope s__law_asked) := ⟨rfl, rfl, rfl, by decide +kernel, rfl, by decide +kernel, by decide +kernel⟩
abbrev s__law_worths_told : Stmt := topS 23
theorem sc__law_worths_told : FnScope ["_law_bounds", "_law_bound", "_law_pairs", "_law_worths", "_law_term", "_law_worth", "_law_l", "_law_r", "_law_gap"] ["_law_bounds", "_law_bound", "_law_pairs"] (defScope s__law_worths_told) := ⟨rfl, rfl, rfl, by decide +kernel, rfl, by decide +kernel, by decide +kernel⟩
abbrev s__law_follows : Stmt := topS 24
theorem sc__law_follows : FnScope ["_law_bounds", "_law_bound", "_law_least", "_law_told", "_law_more", "_law_terms_here", "_law_due", "_law_term"] ["_law_bounds", "_law_bound", "_law_least"] (defScope s__law_follows) := ⟨rfl, rfl, rfl, by decide +kernel, rfl, by decide +kernel, by decide +kernel⟩
abbrev s__law_breaks_by : Stmt := topS 25
theorem sc__law_breaks_by : FnScope ["_law_bounds", "_law_bound", "_law_told", "_law_worths", "_law_pairs", "_law_fixed", "_law_again", "_law_other", "_law_term", "_law_pair"] ["_law_bounds", "_law_bound"] (defScope s__law_breaks_by) := ⟨rfl, rfl, rfl, by decide +kernel, rfl, by decide +kernel, by decide +kernel⟩
abbrev s_law : Stmt := topS 26
theorem sc_law : FnScope ["_law_script", "_law_d", "_law_odd", "_law_terms_here", "_law_bounds", "_law_every", "_law_closure_here", "_law_can", "_law_least", "_law_asked_here", "_law_shown", "_law_bound", "_law_k", "_law_term"] ["_law_script"] (defScope s_law) := ⟨rfl, rfl, rfl, by decide +kernel, rfl, by decide +kernel, by decide +kernel⟩
section
variable {P : Program} {w : World} {K : PySem.W.Frag} {mg : Str → Option Value} {base : Heap}
theorem body_terms_of (B : Blt mg) (f : Addr) (cdv : Value) (A : Around) (outer : List Env) (s : Shared) (H : Hp) (E : XK) (hr : RoomG 0 (A.deeper (envOfC "terms_of" (defScope s_terms_of) s.heap.objs.size f cdv))) :
    DSs (cxOf CX0 P w K mg base ["bounds", "found", "l", "r", "gap", "term"] "terms_of" (defScope s_terms_of) f cdv A outer s H E).nox (defBody s_terms_of) (rd_terms_of) := by
  have hu := hr.r.units
  have hu5 : (A.deeper (envOfC "terms_of" (defScope s_terms_of) s.heap.objs.size f cdv)).units + 65 < cLine := by have := hr.r.un; omega
  exact (dss_cons (ds_set 1 sc_terms_of.nd rfl (by first | exact Or.inl rfl | exact Or.inr rfl) de_dic0)
    (dss_cons (ds_for PassesOwn.never (by rfl) (di_seq (de_var 0)) (dg_tup (by rfl) (dgs_cons (dg_name 2 okAt0 sc_terms_of.nd rfl (by first | exact Or.inl rfl | exact Or.inr rfl)) (dgs_cons (dg_name 3 okAt0 sc_terms_of.nd rfl (by first | exact Or.inl rfl | exact Or.inr rfl)) (dgs_cons (dg_name 4 okAt0 sc_terms_of.nd rfl (by first | exact Or.inl rfl | exact Or.inr rfl)) dgs_nil)))) (dss_cons (ds_asg de_bl (dg_sub hu (de_var 1) (de_var 2)))
    (dss_one (ds_asg de_bl (dg_sub hu (de_var 1) (de_var 3))))))
    (dss_one (ds_ret (de_lc (own := [("term", 5)]) (by rfl) sc_terms_of.nd (di_seq (de_callB (xd_sorted hu rfl) (by rfl) B.n_sorted (by decide +kernel) (da_cons (de_var 1) da_nil))) (blkOk_by (own := [("term", 5)]) (N := ["bounds", "found", "l", "r", "gap", "term"]) (sc := defScope s_terms_of) (by decide +kernel)) (fun _ _ _ _ _ => (dg_name 5 (okAtW (by decide)) sc_terms_of.nd rfl (by first | exact Or.inl rfl | exact Or.inr rfl))) (fun _ _ _ _ _ => (dts_one (dt_cmpR (od_ne hu) (de_var 5) de_str (by rfl)))) (fun _ _ _ _ _ => (de_var 5)))))))
theorem good_terms_of {sp : P1} (T : TopF K mg "terms_of" "terms_of" s_terms_of ["bounds"]) (B : Blt mg) (len : ∀ ds h Q, sp ds h Q → ds.length = 1) (sat : ∀ ds h Q, sp ds h Q → rd_terms_of (endN Q) (startD 6 ds) h) : Good P w K mg base 1 "terms_of" ["bounds"] sp :=
  good_ok T sc_terms_of len (body_terms_of B) sat
theorem body_with_range (B : Blt mg) (f : Addr) (cdv : Value) (A : Around) (outer : List Env) (s : Shared) (H : Hp) (E : XK) (hr : RoomG 0 (A.deeper (envOfC "with_range" (defScope s_with_range) s.heap.objs.size f cdv))) :
    DSs (cxOf CX0 P w K mg base ["bounds", "terms", "found", "term"] "with_range" (defScope s_with_range) f cdv A outer s H E).nox (defBody s_with_range) (rd_with_range) := by
  obtain ⟨t_TOP, m_TOP⟩ := B.k_TOP
  have hu := hr.r.units
  have hu5 : (A.deeper (envOfC "with_range" (defScope s_with_range) s.heap.objs.size f cdv)).units + 65 < cLine := by have := hr.r.un; omega
  exact (dss_cons (ds_set 2 sc_with_range.nd rfl (by first | exact Or.inl rfl | exact Or.inr rfl) (de_callTy xd_list (by rfl) B.n_list (by decide +kernel) (da_cons (de_var 0) da_nil)))
    (dss_cons (ds_for PassesOwn.never (by rfl) (di_seq (de_var 1)) (dg_name 3 okAt0 sc_with_range.nd rfl (by first | exact Or.inl rfl | exact Or.inr rfl)) (dss_cons (ds_expr (de_lm PySem.F.slot_list_append PySem.F.type_list_append xm_append (de_var 2) (da_cons (de_tup (da_cons de_str (da_cons (de_var 3) (da_cons de_int da_nil)))) da_nil)))
    (dss_one (ds_expr (de_lm PySem.F.slot_list_append PySem.F.type_list_append xm_append (de_var 2) (da_cons (de_tup (da_cons (de_var 3) (da_cons de_str (da_cons (de_globI (by rfl) m_TOP ⟨_, rfl⟩) da_nil)))) da_nil))))))
    (dss_one (ds_ret (de_var 2)))))
theorem good_with_range {sp : P1} (T : TopF K mg "with_range" "with_range" s_with_range ["bounds", "terms"]) (B : Blt mg) (len : ∀ ds h Q, sp ds h Q → ds.length = 2) (sat : ∀ ds h Q, sp ds h Q → rd_with_range (endN Q) (startD 4 ds) h) : Good P w K mg base 1 "with_range" ["bounds", "terms"] sp :=
  good_ok T sc_with_range len (body_with_range B) sat
theorem body_ring_from (B : Blt mg) (f : Addr) (cdv : Value) (A : Around) (outer : List Env) (s : Shared) (H : Hp) (E : XK) (hr : RoomG 0 (A.deeper (envOfC "ring_from" (defScope s_ring_from) s.heap.objs.size f cdv))) :
    DSs (cxOf CX0 P w K mg base ["front", "term", "many", "turn", "ring"] "ring_from" (defScope s_ring_from) f cdv A outer s H E).nox (defBody s_ring_from) (rd_ring_from) := by
  have hu := hr.r.units
  have hu5 : (A.deeper (envOfC "ring_from" (defScope s_ring_from) s.heap.objs.size f cdv)).units + 65 < cLine := by have := hr.r.un; omega
  exact (dss_cons (ds_for PassesOwn.never (by rfl) (di_range1 (by rfl) B.n_range (da_cons (de_var 2) da_nil)) (dg_name 3 okAt0 sc_ring_from.nd rfl (by first | exact Or.inl rfl | exact Or.inr rfl)) (dss_one (ds_set 1 sc_ring_from.nd rfl (by first | exact Or.inl rfl | exact Or.inr rfl) (de_ix hu (de_ix hu (de_var 0) (de_var 1) (fun _ _ => rfl)) de_int (fun _ _ => rfl)))))
    (dss_cons (ds_set 4 sc_ring_from.nd rfl (by first | exact Or.inl rfl | exact Or.inr rfl) (de_lst (da_cons (de_ix hu (de_var 0) (de_var 1) (fun _ _ => rfl)) da_nil)))
    (dss_cons (ds_while PassesOwn.never (dt_cmpR (od_ne hu) (de_ix hu (de_ix hu (de_var 4) (de_neg de_int) (fun _ _ => rfl)) de_int (fun _ _ => rfl)) (de_var 1) (by rfl)) (dss_one (ds_expr (de_lm PySem.F.slot_list_append PySem.F.type_list_append xm_append (de_var 4) (da_cons (de_ix hu (de_var 0) (de_ix hu (de_ix hu (de_var 4) (de_neg de_int) (fun _ _ => rfl)) de_int (fun _ _ => rfl)) (fun _ _ => rfl)) da_nil)))))
    (dss_one (ds_ret (de_callTy xd_tuple (by rfl) B.n_tuple (by decide +kernel) (da_cons (de_revL (de_var 4)) da_nil)))))))
theorem good_ring_from {sp : P1} (T : TopF K mg "ring_from" "ring_from" s_ring_from ["front", "term", "many"]) (B : Blt mg) (len : ∀ ds h Q, sp ds h Q → ds.length = 3) (sat : ∀ ds h Q, sp ds h Q → rd_ring_from (endN Q) (startD 5 ds) h) : Good P w K mg base 1 "ring_from" ["front", "term", "many"] sp :=
  good_ok T sc_ring_from len (body_ring_from B) sat
theorem body_opposite (B : Blt mg) (f : Addr) (cdv : Value) (A : Around) (outer : List Env) (s : Shared) (H : Hp) (E : XK) (hr : RoomG 0 (A.deeper (envOfC "opposite" (defScope s_opposite) s.heap.objs.size f cdv))) :
    DSs (cxOf CX0 P w K mg base ["bound", "l", "r", "gap"] "opposite" (defScope s_opposite) f cdv A outer s H E).nox (defBody s_opposite) (rd_opposite) := by
  have hu := hr.r.units
  have hu5 : (A.deeper (envOfC "opposite" (defScope s_opposite) s.heap.objs.size f cdv)).units + 65 < cLine := by have := hr.r.un; omega
  exact (dss_cons (ds_asg (de_var 0) (dg_tup (by rfl) (dgs_cons (dg_name 1 okAt0 sc_opposite.nd rfl (by first | exact Or.inl rfl | exact Or.inr rfl)) (dgs_cons (dg_name 2 okAt0 sc_opposite.nd rfl (by first | exact Or.inl rfl | exact Or.inr rfl)) (dgs_cons (dg_name 3 okAt0 sc_opposite.nd rfl (by first | exact Or.inl rfl | exact Or.inr rfl)) dgs_nil)))))
    (dss_one (ds_ret (de_tup (da_cons (de_var 2) (da_cons (de_var 1) (da_cons (de_op od_sub (de_neg (de_var 3)) de_int) da_nil)))))))
theorem good_opposite {sp : P1} (T : TopF K mg "opposite" "opposite" s_opposite ["bound"]) (B : Blt mg) (len : ∀ ds h Q, sp ds h Q → ds.length = 1) (sat : ∀ ds h Q, sp ds h Q → rd_opposite (endN Q) (startD 4 ds) h) : Good P w K mg base 1 "opposite" ["bound"] sp :=
  good_ok T sc_opposite len (body_opposite B) sat
theorem body__law_begin (B : Blt mg) (f : Addr) (cdv : Value) (A : Around) (outer : List Env) (s : Shared) (H : Hp) (E : XK) (hr : RoomG 0 (A.deeper (envOfC "_law_begin" (defScope s__law_begin) s.heap.objs.size f cdv))) :
    DSs (cxOf CX0 P w K mg base ["_law_script", "_law_cell"] "_law_begin" (defScope s__law_begin) f cdv A outer s H E).nox (defBody s__law_begin) (rd__law_begin) := by
  have hu := hr.r.units
  have hu5 : (A.deeper (envOfC "_law_begin" (defScope s__law_begin) s.heap.objs.size f cdv)).units + 65 < cLine := by have := hr.r.un; omega
  exact (dss_one (ds_ret (de_lst (da_cons (de_lc (own := [("_law_cell", 1)]) (by rfl) sc__law_begin.nd (di_seq (de_var 0)) (blkOk_by (own := [("_law_cell", 1)]) (N := ["_law_script", "_law_cell"]) (sc := defScope s__law_begin) (by decide +kernel)) (fun _ _ _ _ _ => (dg_name 1 (okAtW (by decide)) sc__law_begin.nd rfl (by first | exact Or.inl rfl | exact Or.inr rfl))) (fun _ _ _ _ _ => dts_nil) (fun _ _ _ _ _ => (de_callTy xd_int (by rfl) B.n_int (by decide +kernel) (da_cons (de_var 1) da_nil)))) (da_cons de_int (da_cons de_int (da_cons de_int (da_cons de_int da_nil))))))))
theorem good__law_begin {sp : P1} (T : TopF K mg "_law_begin" "_law_begin" s__law_begin ["_law_script"]) (B : Blt mg) (len : ∀ ds h Q, sp ds h Q → ds.length = 1) (sat : ∀ ds h Q, sp ds h Q → rd__law_begin (endN Q) (startD 2 ds) h) : Good P w K mg base 1 "_law_begin" ["_law_script"] sp :=
  good_ok T sc__law_begin len (body__law_begin B) sat
theorem body__law_draw (B : Blt mg) (f : Addr) (cdv : Value) (A : Around) (outer : List Env) (s : Shared) (H : Hp) (E : XK) (hr : RoomG 0 (A.deeper (envOfC "_law_draw" (defScope s__law_draw) s.heap.objs.size f cdv))) :
    DSs (cxOf CX0 P w K mg base ["_law_d", "_law_many", "_law_found", "_law_size", "_law_cell"] "_law_draw" (defScope s__law_draw) f cdv A outer s H E).nox (defBody s__law_draw) (rd__law_draw) := by
  have hu := hr.r.units
  have hu5 : (A.deeper (envOfC "_law_draw" (defScope s__law_draw) s.heap.objs.size f cdv)).units + 65 < cLine := by have := hr.r.un; omega
  exact (dss_cons (ds_if (dt_cmpR od_gt (de_ix hu (de_var 0) de_int (fun _ _ => rfl)) de_int (by rfl)) (dss_cons (ds_set 2 sc__law_draw.nd rfl (by first | exact Or.inl rfl | exact Or.inr rfl) (de_ix hu (de_var 0) de_int (fun _ _ => rfl)))
    (dss_cons (ds_asg (de_op od_fdiv (de_var 2) (de_var 1)) (dg_sub hu (de_var 0) de_int))
    (dss_one (ds_ret (de_op od_mod (de_callTy xd_int (by rfl) B.n_int (by decide +kernel) (da_cons (de_var 2) da_nil)) (de_var 1)))))) dss_nil)
    (dss_cons (ds_set 3 sc__law_draw.nd rfl (by first | exact Or.inl rfl | exact Or.inr rfl) de_int)
    (dss_cons (ds_if (dt_cmpR od_lt (de_ix hu (de_var 0) de_int (fun _ _ => rfl)) (de_callB xd_len (by rfl) B.n_len (by decide +kernel) (da_cons (de_ix hu (de_var 0) de_int (fun _ _ => rfl)) da_nil)) (by rfl)) (dss_cons (ds_set 4 sc__law_draw.nd rfl (by first | exact Or.inl rfl | exact Or.inr rfl) (de_ix hu (de_ix hu (de_var 0) de_int (fun _ _ => rfl)) (de_ix hu (de_var 0) de_int (fun _ _ => rfl)) (fun _ _ => rfl)))
    (dss_one (ds_set 3 sc__law_draw.nd rfl (by first | exact Or.inl rfl | exact Or.inr rfl) (de_op od_add (de_op od_mul de_int (de_callB xd_abs (by rfl) B.n_abs (by decide +kernel) (da_cons (de_var 4) da_nil))) (de_callTy xd_int (by rfl) B.n_int (by decide +kernel) (da_cons (de_cmpR od_lt (de_var 4) de_int (by rfl)) da_nil)))))) dss_nil)
    (dss_cons (ds_augS hu (de_var 0) de_int de_int xd_iadd)
    (dss_cons (ds_if (dt_cmpR od_ge (de_var 3) (de_op od_mul de_int (de_op od_pow de_int de_int)) (by rfl)) (dss_cons (ds_set 2 sc__law_draw.nd rfl (by first | exact Or.inl rfl | exact Or.inr rfl) (de_op od_mod (de_callTy xd_int (by rfl) B.n_int (by decide +kernel) (da_cons (de_op od_fdiv (de_var 3) de_int) da_nil)) (de_op od_shl de_int de_int)))
    (dss_cons (ds_asg (de_op od_fdiv (de_var 2) (de_var 1)) (dg_sub hu (de_var 0) de_int))
    (dss_one (ds_ret (de_op od_mod (de_callTy xd_int (by rfl) B.n_int (by decide +kernel) (da_cons (de_var 2) da_nil)) (de_var 1)))))) dss_nil)
    (dss_cons (ds_asg (de_op od_mod (de_callTy xd_int (by rfl) B.n_int (by decide +kernel) (da_cons (de_op od_add (de_op od_add (de_op od_add (de_op od_mul (de_ix hu (de_var 0) de_int (fun _ _ => rfl)) de_int) (de_op od_mul (de_op od_mod (de_callTy xd_int (by rfl) B.n_int (by decide +kernel) (da_cons (de_var 3) da_nil)) de_int) de_int)) (de_op od_mul (de_ix hu (de_var 0) de_int (fun _ _ => rfl)) de_int)) de_int) da_nil)) de_int) (dg_sub hu (de_var 0) de_int))
    (dss_one (ds_ret (de_op od_mod (de_callTy xd_int (by rfl) B.n_int (by decide +kernel) (da_cons (de_op od_fdiv (de_ix hu (de_var 0) de_int (fun _ _ => rfl)) de_int) da_nil)) (de_var 1))))))))))
theorem good__law_draw {sp : P1} (T : TopF K mg "_law_draw" "_law_draw" s__law_draw ["_law_d", "_law_many"]) (B : Blt mg) (len : ∀ ds h Q, sp ds h Q → ds.length = 2) (sat : ∀ ds h Q, sp ds h Q → rd__law_draw (endN Q) (startD 5 ds) h) : Good P w K mg base 1 "_law_draw" ["_law_d", "_law_many"] sp :=
  good_ok T sc__law_draw len (body__law_draw B) sat
theorem body__law_is_int (B : Blt mg) (f : Addr) (cdv : Value) (A : Around) (outer : List Env) (s : Shared) (H : Hp) (E : XK) (hr : RoomG 0 (A.deeper (envOfC "_law_is_int" (defScope s__law_is_int) s.heap.objs.size f cdv))) :
    DSs (cxOf CX0 P w K mg base ["_law_thing"] "_law_is_int" (defScope s__law_is_int) f cdv A outer s H E).nox (defBody s__law_is_int) (rd__law_is_int) := by
  have hu := hr.r.units
  have hu5 : (A.deeper (envOfC "_law_is_int" (defScope s__law_is_int) s.heap.objs.size f cdv)).units + 65 < cLine := by have := hr.r.un; omega
  exact (dss_one (ds_ret (de_and (de_callB xd_isi (by rfl) B.n_isinstance (by decide +kernel) (da_cons (de_var 0) (da_cons (de_ty (T := "int") (by rfl) B.n_int (by decide +kernel)) da_nil))) (de_one (de_not (de_callB xd_isi (by rfl) B.n_isinstance (by decide +kernel) (da_cons (de_var 0) (da_cons (de_ty (T := "bool") (by rfl) B.n_bool (by decide +kernel)) da_nil))))))))
theorem good__law_is_int {sp : P1} (T : TopF K mg "_law_is_int" "_law_is_int" s__law_is_int ["_law_thing"]) (B : Blt mg) (len : ∀ ds h Q, sp ds h Q → ds.length = 1) (sat : ∀ ds h Q, sp ds h Q → rd__law_is_int (endN Q) (startD 1 ds) h) : Good P w K mg base 1 "_law_is_int" ["_law_thing"] sp :=
  good_ok T sc__law_is_int len (body__law_is_int B) sat
theorem body__law_terms (B : Blt mg) (f : Addr) (cdv : Value) (A : Around) (outer : List Env) (s : Shared) (H : Hp) (E : XK) (hr : RoomG 0 (A.deeper (envOfC "_law_terms" (defScope s__law_terms) s.heap.objs.size f cdv))) :
    DSs (cxOf CX0 P w K mg base ["_law_bounds", "_law_found", "_law_bound", "_law_term"] "_law_terms" (defScope s__law_terms) f cdv A outer s H E).nox (defBody s__law_terms) (rd__law_terms) := by
  have hu := hr.r.units
  have hu5 : (A.deeper (envOfC "_law_terms" (defScope s__law_terms) s.heap.objs.size f cdv)).units + 65 < cLine := by have := hr.r.un; omega
  exact (dss_cons (ds_set 1 sc__law_terms.nd rfl (by first | exact Or.inl rfl | exact Or.inr rfl) (de_lst da_nil))
    (dss_cons (ds_for PassesOwn.never (by rfl) (di_seq (de_var 0)) (dg_name 2 okAt0 sc__law_terms.nd rfl (by first | exact Or.inl rfl | exact Or.inr rfl)) (dss_one (ds_for PassesOwn.never (by rfl) (di_seq (de_slice (de_var 2) do_none (do_some de_int))) (dg_name 3 okAt0 sc__law_terms.nd rfl (by first | exact Or.inl rfl | exact Or.inr rfl)) (dss_one (ds_if (dt_w (dw_and (dt_cmpR (od_ne hu) (de_var 3) de_str (by rfl)) (dw_and1 (dt_cmpR (od_notIn hu5) (de_var 3) (de_var 1) (by rfl))))) (dss_one (ds_expr (de_lm PySem.F.slot_list_append PySem.F.type_list_append xm_append (de_var 1) (da_cons (de_var 3) da_nil)))) dss_nil)))))
    (dss_one (ds_ret (de_callB (xd_sorted hu rfl) (by rfl) B.n_sorted (by decide +kernel) (da_cons (de_var 1) da_nil))))))
theorem good__law_terms {sp : P1} (T : TopF K mg "_law_terms" "_law_terms" s__law_terms ["_law_bounds"]) (B : Blt mg) (len : ∀ ds h Q, sp ds h Q → ds.length = 1) (sat : ∀ ds h Q, sp ds h Q → rd__law_terms (endN Q) (startD 4 ds) h) : Good P w K mg base 1 "_law_terms" ["_law_bounds"] sp :=
  good_ok T sc__law_terms len (body__law_terms B) sat
theorem body__law_closure (B : Blt mg) (f : Addr) (cdv : Value) (A : Around) (outer : List Env) (s : Shared) (H : Hp) (E : XK) (hr : RoomG 0 (A.deeper (envOfC "_law_closure" (defScope s__law_closure) s.heap.objs.size f cdv))) :
    DSs (cxOf CX0 P w K mg base ["_law_bounds", "_law_terms_here", "_law_found", "_law_l", "_law_r", "_law_gap", "_law_amid"] "_law_closure" (defScope s__law_closure) f cdv A outer s H E).nox (defBody s__law_closure) (rd__law_closure) := by
  have hu := hr.r.units
  have hu5 : (A.deeper (envOfC "_law_closure" (defScope s__law_closure) s.heap.objs.size f cdv)).units + 65 < cLine := by have := hr.r.un; omega
  exact (dss_cons (ds_set 2 sc__law_closure.nd rfl (by first | exact Or.inl rfl | exact Or.inr rfl) de_dic0)
    (dss_cons (ds_for PassesOwn.never (by rfl) (di_seq (de_var 1)) (dg_name 3 okAt0 sc__law_closure.nd rfl (by first | exact Or.inl rfl | exact Or.inr rfl)) (dss_one (ds_for PassesOwn.never (by rfl) (di_seq (de_var 1)) (dg_name 4 okAt0 sc__law_closure.nd rfl (by first | exact Or.inl rfl | exact Or.inr rfl)) (dss_one (ds_asg (de_ifExp (dt_w (dw_or (dt_cmpR (od_eq hu) (de_var 3) (de_var 4) (by rfl)) (dw_or1 (dt_cmpR (od_eq hu) (de_var 3) de_str (by rfl))))) de_int de_int) (dg_sub hu (de_var 2) (de_tup (da_cons (de_var 3) (da_cons (de_var 4) da_nil)))))))))
    (dss_cons (ds_for PassesOwn.never (by rfl) (di_seq (de_var 0)) (dg_tup (by rfl) (dgs_cons (dg_name 3 okAt0 sc__law_closure.nd rfl (by first | exact Or.inl rfl | exact Or.inr rfl)) (dgs_cons (dg_name 4 okAt0 sc__law_closure.nd rfl (by first | exact Or.inl rfl | exact Or.inr rfl)) (dgs_cons (dg_name 5 okAt0 sc__law_closure.nd rfl (by first | exact Or.inl rfl | exact Or.inr rfl)) dgs_nil)))) (dss_one (ds_asg (de_callB (xd_min2 rfl) (by rfl) B.n_min (by decide +kernel) (da_cons (de_ix hu (de_var 2) (de_tup (da_cons (de_var 3) (da_cons (de_var 4) da_nil))) (fun _ _ => rfl)) (da_cons (de_var 5) da_nil))) (dg_sub hu (de_var 2) (de_tup (da_cons (de_var 3) (da_cons (de_var 4) da_nil)))))))
    (dss_cons (ds_for PassesOwn.never (by rfl) (di_seq (de_var 1)) (dg_name 6 okAt0 sc__law_closure.nd rfl (by first | exact Or.inl rfl | exact Or.inr rfl)) (dss_one (ds_for PassesOwn.never (by rfl) (di_seq (de_var 1)) (dg_name 3 okAt0 sc__law_closure.nd rfl (by first | exact Or.inl rfl | exact Or.inr rfl)) (dss_one (ds_for PassesOwn.never (by rfl) (di_seq (de_var 1)) (dg_name 4 okAt0 sc__law_closure.nd rfl (by first | exact Or.inl rfl | exact Or.inr rfl)) (dss_one (ds_asg (de_callB (xd_min2 rfl) (by rfl) B.n_min (by decide +kernel) (da_cons (de_ix hu (de_var 2) (de_tup (da_cons (de_var 3) (da_cons (de_var 4) da_nil))) (fun _ _ => rfl)) (da_cons (de_op od_add (de_ix hu (de_var 2) (de_tup (da_cons (de_var 3) (da_cons (de_var 6) da_nil))) (fun _ _ => rfl)) (de_ix hu (de_var 2) (de_tup (da_cons (de_var 6) (da_cons (de_var 4) da_nil))) (fun _ _ => rfl))) da_nil))) (dg_sub hu (de_var 2) (de_tup (da_cons (de_var 3) (da_cons (de_var 4) da_nil)))))))))))
    (dss_one (ds_ret (de_var 2)))))))
theorem good__law_closure {sp : P1} (T : TopF K mg "_law_closure" "_law_closure" s__law_closure ["_law_bounds", "_law_terms_here"]) (B : Blt mg) (len : ∀ ds h Q, sp ds h Q → ds.length = 2) (sat : ∀ ds h Q, sp ds h Q → rd__law_closure (endN Q) (startD 7 ds) h) : Good P w K mg base 1 "_law_closure" ["_law_bounds", "_law_terms_here"] sp :=
  good_ok T sc__law_closure len (body__law_closure B) sat
theorem body_settle {sp_terms_of : P1} {sp_with_range : P1} {sp_ring_from : P1} (B : Blt mg) (G_terms_of : Good P w K mg base 1 "terms_of" ["bounds"] sp_terms_of) (G_with_range : Good P w K mg base 1 "with_range" ["bounds", "terms"] sp_with_range) (G_ring_from : Good P w K mg base 1 "ring_from" ["front", "term", "many"] sp_ring_from) (f : Addr) (cdv : Value) (A : Around) (outer : List Env) (s : Shared) (H : Hp) (E : XK) (hr : RoomG 1 (A.deeper (envOfC "settle" (defScope s_settle) s.heap.objs.size f cdv))) :
    DSs (cxOf CX0 P w K mg base ["bounds", "terms", "rows", "worths", "front", "turn", "raised", "bound", "l", "r", "gap", "term"] "settle" (defScope s_settle) f cdv A outer s H E).nox (defBody s_settle) (rd_settle sp_terms_of sp_with_range sp_ring_from) := by
  have hu := hr.r.units
  have hu5 : (A.deeper (envOfC "settle" (defScope s_settle) s.heap.objs.size f cdv)).units + 65 < cLine := by have := hr.r.un; omega
  exact (dss_cons (ds_set 1 sc_settle.nd rfl (by first | exact Or.inl rfl | exact Or.inr rfl) (de_callG G_terms_of hr (by omega) (by rfl) (da_cons (de_var 0) da_nil)))
    (dss_cons (ds_set 2 sc_settle.nd rfl (by first | exact Or.inl rfl | exact Or.inr rfl) (de_callG G_with_range hr (by omega) (by rfl) (da_cons (de_var 0) (da_cons (de_var 1) da_nil))))
    (dss_cons (ds_set 3 sc_settle.nd rfl (by first | exact Or.inl rfl | exact Or.inr rfl) (de_disp (trs := [((dC (.str (Str.ofString "0"))), (dC (.int 0)))]) (pps_cons de_str de_int pps_nil) (by rfl) (by rfl) (by simp) (by decide)))
    (dss_cons (ds_set 4 sc_settle.nd rfl (by first | exact Or.inl rfl | exact Or.inr rfl) de_dic0)
    (dss_cons (ds_for PassesOwn.never (by rfl) (di_range1 (by rfl) B.n_range (da_cons (de_op od_add (de_callB xd_len (by rfl) B.n_len (by decide +kernel) (da_cons (de_var 1) da_nil)) de_int) da_nil)) (dg_name 5 okAt0 sc_settle.nd rfl (by first | exact Or.inl rfl | exact Or.inr rfl)) (dss_cons (ds_set 6 sc_settle.nd rfl (by first | exact Or.inl rfl | exact Or.inr rfl) de_non)
    (dss_cons (ds_for PassesOwn.never (by rfl) (di_seq (de_var 2)) (dg_name 7 okAt0 sc_settle.nd rfl (by first | exact Or.inl rfl | exact Or.inr rfl)) (dss_cons (ds_asg (de_var 7) (dg_tup (by rfl) (dgs_cons (dg_name 8 okAt0 sc_settle.nd rfl (by first | exact Or.inl rfl | exact Or.inr rfl)) (dgs_cons (dg_name 9 okAt0 sc_settle.nd rfl (by first | exact Or.inl rfl | exact Or.inr rfl)) (dgs_cons (dg_name 10 okAt0 sc_settle.nd rfl (by first | exact Or.inl rfl | exact Or.inr rfl)) dgs_nil)))))
    (dss_one (ds_if (dt_w (dw_and (dt_cmpR (od_in hu5) (de_var 8) (de_var 3) (by rfl)) (dw_and1 (dt_w (dw_or (dt_cmpR (od_notIn hu5) (de_var 9) (de_var 3) (by rfl)) (dw_or1 (dt_cmpR od_gt (de_op od_sub (de_ix hu (de_var 3) (de_var 8) (fun _ _ => rfl)) (de_var 10)) (de_ix hu (de_var 3) (de_var 9) (fun _ _ => rfl)) (by rfl)))))))) (dss_cons (ds_asg (de_op od_sub (de_ix hu (de_var 3) (de_var 8) (fun _ _ => rfl)) (de_var 10)) (dg_sub hu (de_var 3) (de_var 9)))
    (dss_cons (ds_asg (de_var 7) (dg_sub hu (de_var 4) (de_var 9)))
    (dss_one (ds_set 6 sc_settle.nd rfl (by first | exact Or.inl rfl | exact Or.inr rfl) (de_var 9))))) dss_nil))))
    (dss_one (ds_if (dt_cmpR od_is (de_var 6) de_non (by rfl)) (dss_one (ds_ret (de_tup (da_cons de_str (da_cons (de_callTy xd_tuple (by rfl) B.n_tuple (by decide +kernel) (da_cons (de_lc (own := [("term", 11)]) (by rfl) sc_settle.nd (di_seq (de_var 1)) (blkOk_by (own := [("term", 11)]) (N := ["bounds", "terms", "rows", "worths", "front", "turn", "raised", "bound", "l", "r", "gap", "term"]) (sc := defScope s_settle) (by decide +kernel)) (fun _ _ _ _ _ => (dg_name 11 (okAtW (by decide)) sc_settle.nd rfl (by first | exact Or.inl rfl | exact Or.inr rfl))) (fun _ _ _ _ _ => dts_nil) (fun _ _ _ _ _ => (de_tup (da_cons (de_var 11) (da_cons (de_ix hu (de_var 3) (de_var 11) (fun _ _ => rfl)) da_nil))))) da_nil)) da_nil))))) dss_nil)))))
    (dss_one (ds_ret (de_tup (da_cons de_str (da_cons (de_callG G_ring_from hr (by omega) (by rfl) (da_cons (de_var 4) (da_cons (de_var 6) (da_cons (de_op od_add (de_callB xd_len (by rfl) B.n_len (by decide +kernel) (da_cons (de_var 1) da_nil)) de_int) da_nil)))) da_nil))))))))))
theorem good_settle {sp : P1} {sp_terms_of : P1} {sp_with_range : P1} {sp_ring_from : P1} (T : TopF K mg "settle" "settle" s_settle ["bounds"]) (B : Blt mg) (G_terms_of : Good P w K mg base 1 "terms_of" ["bounds"] sp_terms_of) (G_with_range : Good P w K mg base 1 "with_range" ["bounds", "terms"] sp_with_range) (G_ring_from : Good P w K mg base 1 "ring_from" ["front", "term", "many"] sp_ring_from) (len : ∀ ds h Q, sp ds h Q → ds.length = 1) (sat : ∀ ds h Q, sp ds h Q → rd_settle sp_terms_of sp_with_range sp_ring_from (endN Q) (startD 12 ds) h) : Good P w K mg base 2 "settle" ["bounds"] sp :=
  good_ok T sc_settle len (body_settle B G_terms_of G_with_range G_ring_from) sat
theorem body__law_pick {sp__law_draw : P1} (B : Blt mg) (G__law_draw : Good P w K mg base 1 "_law_draw" ["_law_d", "_law_many"] sp__law_draw) (f : Addr) (cdv : Value) (A : Around) (outer : List Env) (s : Shared) (H : Hp) (E : XK) (hr : RoomG 1 (A.deeper (envOfC "_law_pick" (defScope s__law_pick) s.heap.objs.size f cdv))) :
    DSs (cxOf CX0 P w K mg base ["_law_d", "_law_row"] "_law_pick" (defScope s__law_pick) f cdv A outer s H E).nox (defBody s__law_pick) (rd__law_pick sp__law_draw) := by
  have hu := hr.r.units
  have hu5 : (A.deeper (envOfC "_law_pick" (defScope s__law_pick) s.heap.objs.size f cdv)).units + 65 < cLine := by have := hr.r.un; omega
  exact (dss_one (ds_ret (de_ix hu (de_var 1) (de_callG G__law_draw hr (by omega) (by rfl) (da_cons (de_var 0) (da_cons (de_callB xd_len (by rfl) B.n_len (by decide +kernel) (da_cons (de_var 1) da_nil)) da_nil))) (fun _ _ => rfl))))
theorem good__law_pick {sp : P1} {sp__law_draw : P1} (T : TopF K mg "_law_pick" "_law_pick" s__law_pick ["_law_d", "_law_row"]) (B : Blt mg) (G__law_draw : Good P w K mg base 1 "_law_draw" ["_law_d", "_law_many"] sp__law_draw) (len : ∀ ds h Q, sp ds h Q → ds.length = 2) (sat : ∀ ds h Q, sp ds h Q → rd__law_pick sp__law_draw (endN Q) (startD 2 ds) h) : Good P w K mg base 2 "_law_pick" ["_law_d", "_law_row"] sp :=
  good_ok T sc__law_pick len (body__law_pick B G__law_draw) sat
theorem body__law_pop {sp__law_draw : P1} (B : Blt mg) (G__law_draw : Good P w K mg base 1 "_law_draw" ["_law_d", "_law_many"] sp__law_draw) (f : Addr) (cdv : Value) (A : Around) (outer : List Env) (s : Shared) (H : Hp) (E : XK) (hr : RoomG 1 (A.deeper (envOfC "_law_pop" (defScope s__law_pop) s.heap.objs.size f cdv))) :
    DSs (cxOf CX0 P w K mg base ["_law_d", "_law_row"] "_law_pop" (defScope s__law_pop) f cdv A outer s H E).nox (defBody s__law_pop) (rd__law_pop sp__law_draw) := by
  have hu := hr.r.units
  have hu5 : (A.deeper (envOfC "_law_pop" (defScope s__law_pop) s.heap.objs.size f cdv)).units + 65 < cLine := by have := hr.r.un; omega
  exact (dss_one (ds_ret (de_lm PySem.F.slot_list_pop PySem.F.type_list_pop xm_pop (de_var 1) (da_cons (de_callG G__law_draw hr (by omega) (by rfl) (da_cons (de_var 0) (da_cons (de_callB xd_len (by rfl) B.n_len (by decide +kernel) (da_cons (de_var 1) da_nil)) da_nil))) da_nil))))
theorem good__law_pop {sp : P1} {sp__law_draw : P1} (T : TopF K mg "_law_pop" "_law_pop" s__law_pop ["_law_d", "_law_row"]) (B : Blt mg) (G__law_draw : Good P w K mg base 1 "_law_draw" ["_law_d", "_law_many"] sp__law_draw) (len : ∀ ds h Q, sp ds h Q → ds.length = 2) (sat : ∀ ds h Q, sp ds h Q → rd__law_pop sp__law_draw (endN Q) (startD 2 ds) h) : Good P w K mg base 2 "_law_pop" ["_law_d", "_law_row"] sp :=
  good_ok T sc__law_pop len (body__law_pop B G__law_draw) sat
theorem body__law_is_rows {sp__law_is_int : P1} (B : Blt mg) (G__law_is_int : Good P w K mg base 1 "_law_is_int" ["_law_thing"] sp__law_is_int) (f : Addr) (cdv : Value) (A : Around) (outer : List Env) (s : Shared) (H : Hp) (E : XK) (hr : RoomG 1 (A.deeper (envOfC "_law_is_rows" (defScope s__law_is_rows) s.heap.objs.size f cdv))) :
    DSs (cxOf CX0 P w K mg base ["_law_rows", "_law_kinds", "_law_row", "_law_part", "_law_kind"] "_law_is_rows" (defScope s__law_is_rows) f cdv A outer s H E).nox (defBody s__law_is_rows) (rd__law_is_rows sp__law_is_int) := by
  have hu := hr.r.units
  have hu5 : (A.deeper (envOfC "_law_is_rows" (defScope s__law_is_rows) s.heap.objs.size f cdv)).units + 65 < cLine := by have := hr.r.un; omega
  exact (dss_cons (ds_if (dt_not (dt_tru (de_callB xd_isi (by rfl) B.n_isinstance (by decide +kernel) (da_cons (de_var 0) (da_cons (de_ty (T := "tuple") (by rfl) B.n_tuple (by decide +kernel)) da_nil))))) (dss_one (ds_ret de_bl)) dss_nil)
    (dss_cons (ds_for PassesOwn.never (by rfl) (di_seq (de_var 0)) (dg_name 2 okAt0 sc__law_is_rows.nd rfl (by first | exact Or.inl rfl | exact Or.inr rfl)) (dss_cons (ds_if (dt_w (dw_or (dt_not (dt_tru (de_callB xd_isi (by rfl) B.n_isinstance (by decide +kernel) (da_cons (de_var 2) (da_cons (de_ty (T := "tuple") (by rfl) B.n_tuple (by decide +kernel)) da_nil))))) (dw_or1 (dt_cmpR (od_ne hu) (de_callB xd_len (by rfl) B.n_len (by decide +kernel) (da_cons (de_var 2) da_nil)) (de_callB xd_len (by rfl) B.n_len (by decide +kernel) (da_cons (de_var 1) da_nil)) (by rfl))))) (dss_one (ds_ret de_bl)) dss_nil)
    (dss_one (ds_for PassesOwn.never (by rfl) (di_zipS (by rfl) B.n_zip (da_cons (de_var 2) (da_cons (de_var 1) da_nil))) (dg_tup (by rfl) (dgs_cons (dg_name 3 okAt0 sc__law_is_rows.nd rfl (by first | exact Or.inl rfl | exact Or.inr rfl)) (dgs_cons (dg_name 4 okAt0 sc__law_is_rows.nd rfl (by first | exact Or.inl rfl | exact Or.inr rfl)) dgs_nil))) (dss_cons (ds_if (dt_w (dw_or (dt_w (dw_and (dt_cmpR (od_eq hu) (de_var 4) de_str (by rfl)) (dw_and1 (dt_not (dt_tru (de_callB xd_isi (by rfl) B.n_isinstance (by decide +kernel) (da_cons (de_var 3) (da_cons (de_ty (T := "str") (by rfl) B.n_str (by decide +kernel)) da_nil)))))))) (dw_or1 (dt_w (dw_and (dt_cmpR (od_eq hu) (de_var 4) de_str (by rfl)) (dw_and1 (dt_not (dt_tru (de_callG G__law_is_int hr (by omega) (by rfl) (da_cons (de_var 3) da_nil)))))))))) (dss_one (ds_ret de_bl)) dss_nil)
    (dss_one (ds_if (dt_w (dw_or (dt_w (dw_and (dt_cmpR (od_eq hu) (de_var 4) de_str (by rfl)) (dw_and1 (dt_not (dt_tru (de_callB xd_isi (by rfl) B.n_isinstance (by decide +kernel) (da_cons (de_var 3) (da_cons (de_ty (T := "tuple") (by rfl) B.n_tuple (by decide +kernel)) da_nil)))))))) (dw_or1 (dt_w (dw_and (dt_cmpR (od_eq hu) (de_var 4) de_str (by rfl)) (dw_and1 (dt_not (dt_tru (de_callB xd_isi (by rfl) B.n_isinstance (by decide +kernel) (da_cons (de_var 3) (da_cons (de_ty (T := "bool") (by rfl) B.n_bool (by decide +kernel)) da_nil))))))))))) (dss_one (ds_ret de_bl)) dss_nil)))))))
    (dss_one (ds_ret de_bl))))
theorem good__law_is_rows {sp : P1} {sp__law_is_int : P1} (T : TopF K mg "_law_is_rows" "_law_is_rows" s__law_is_rows ["_law_rows", "_law_kinds"]) (B : Blt mg) (G__law_is_int : Good P w K mg base 1 "_law_is_int" ["_law_thing"] sp__law_is_int) (len : ∀ ds h Q, sp ds h Q → ds.length = 2) (sat : ∀ ds h Q, sp ds h Q → rd__law_is_rows sp__law_is_int (endN Q) (startD 5 ds) h) : Good P w K mg base 2 "_law_is_rows" ["_law_rows", "_law_kinds"] sp :=
  good_ok T sc__law_is_rows len (body__law_is_rows B G__law_is_int) sat
theorem body__law_ranged {sp__law_terms : P1} (B : Blt mg) (G__law_terms : Good P w K mg base 1 "_law_terms" ["_law_bounds"] sp__law_terms) (f : Addr) (cdv : Value) (A : Around) (outer : List Env) (s : Shared) (H : Hp) (E : XK) (hr : RoomG 1 (A.deeper (envOfC "_law_ranged" (defScope s__law_ranged) s.heap.objs.size f cdv))) :
    DSs (cxOf CX0 P w K mg base ["_law_bounds", "_law_found", "_law_term"] "_law_ranged" (defScope s__law_ranged) f cdv A outer s H E).nox (defBody s__law_ranged) (rd__law_ranged sp__law_terms) := by
  have hu := hr.r.units
  have hu5 : (A.deeper (envOfC "_law_ranged" (defScope s__law_ranged) s.heap.objs.size f cdv)).units + 65 < cLine := by have := hr.r.un; omega
  exact (dss_cons (ds_set 1 sc__law_ranged.nd rfl (by first | exact Or.inl rfl | exact Or.inr rfl) (de_callTy xd_list (by rfl) B.n_list (by decide +kernel) (da_cons (de_var 0) da_nil)))
    (dss_cons (ds_for PassesOwn.never (by rfl) (di_seq (de_callG G__law_terms hr (by omega) (by rfl) (da_cons (de_var 0) da_nil))) (dg_name 2 okAt0 sc__law_ranged.nd rfl (by first | exact Or.inl rfl | exact Or.inr rfl)) (dss_cons (ds_expr (de_lm PySem.F.slot_list_append PySem.F.type_list_append xm_append (de_var 1) (da_cons (de_tup (da_cons de_str (da_cons (de_var 2) (da_cons de_int da_nil)))) da_nil)))
    (dss_one (ds_expr (de_lm PySem.F.slot_list_append PySem.F.type_list_append xm_append (de_var 1) (da_cons (de_tup (da_cons (de_var 2) (da_cons de_str (da_cons de_int da_nil)))) da_nil))))))
    (dss_one (ds_ret (de_var 1)))))
theorem good__law_ranged {sp : P1} {sp__law_terms : P1} (T : TopF K mg "_law_ranged" "_law_ranged" s__law_ranged ["_law_bounds"]) (B : Blt mg) (G__law_terms : Good P w K mg base 1 "_law_terms" ["_law_bounds"] sp__law_terms) (len : ∀ ds h Q, sp ds h Q → ds.length = 1) (sat : ∀ ds h Q, sp ds h Q → rd__law_ranged sp__law_terms (endN Q) (startD 3 ds) h) : Good P w K mg base 2 "_law_ranged" ["_law_bounds"] sp :=
  good_ok T sc__law_ranged len (body__law_ranged B G__law_terms) sat
theorem body_follows {sp_settle : P1} {sp_opposite : P1} (B : Blt mg) (G_settle : Good P w K mg base 2 "settle" ["bounds"] sp_settle) (G_opposite : Good P w K mg base 1 "opposite" ["bound"] sp_opposite) (f : Addr) (cdv : Value) (A : Around) (outer : List Env) (s : Shared) (H : Hp) (E : XK) (hr : RoomG 2 (A.deeper (envOfC "follows" (defScope s_follows) s.heap.objs.size f cdv))) :
    DSs (cxOf CX0 P w K mg base ["bounds", "bound", "word", "told"] "follows" (defScope s_follows) f cdv A outer s H E).nox (defBody s_follows) (rd_follows sp_settle sp_opposite) := by
  have hu := hr.r.units
  have hu5 : (A.deeper (envOfC "follows" (defScope s_follows) s.heap.objs.size f cdv)).units + 65 < cLine := by have := hr.r.un; omega
  exact (dss_cons (ds_asg (de_callG G_settle hr (by omega) (by rfl) (da_cons (de_op od_add (de_callTy xd_tuple (by rfl) B.n_tuple (by decide +kernel) (da_cons (de_var 0) da_nil)) (de_tup (da_cons (de_callG G_opposite hr (by omega) (by rfl) (da_cons (de_var 1) da_nil)) da_nil))) da_nil)) (dg_tup (by rfl) (dgs_cons (dg_name 2 okAt0 sc_follows.nd rfl (by first | exact Or.inl rfl | exact Or.inr rfl)) (dgs_cons (dg_name 3 okAt0 sc_follows.nd rfl (by first | exact Or.inl rfl | exact Or.inr rfl)) dgs_nil))))
    (dss_one (ds_ret (de_ifExp (dt_cmpR (od_eq hu) (de_var 2) de_str (by rfl)) (de_tup (da_cons de_str (da_cons (de_var 3) da_nil))) (de_tup (da_cons de_str (da_cons (de_var 3) da_nil)))))))
theorem good_follows {sp : P1} {sp_settle : P1} {sp_opposite : P1} (T : TopF K mg "follows" "follows" s_follows ["bounds", "bound"]) (B : Blt mg) (G_settle : Good P w K mg base 2 "settle" ["bounds"] sp_settle) (G_opposite : Good P w K mg base 1 "opposite" ["bound"] sp_opposite) (len : ∀ ds h Q, sp ds h Q → ds.length = 2) (sat : ∀ ds h Q, sp ds h Q → rd_follows sp_settle sp_opposite (endN Q) (startD 4 ds) h) : Good P w K mg base 3 "follows" ["bounds", "bound"] sp :=
  good_ok T sc_follows len (body_follows B G_settle G_opposite) sat
theorem body__law_least_worths {sp__law_ranged : P1} {sp__law_terms : P1} (B : Blt mg) (G__law_ranged : Good P w K mg base 2 "_law_ranged" ["_law_bounds"] sp__law_ranged) (G__law_terms : Good P w K mg base 1 "_law_terms" ["_law_bounds"] sp__law_terms) (f : Addr) (cdv : Value) (A : Around) (outer : List Env) (s : Shared) (H : Hp) (E : XK) (hr : RoomG 2 (A.deeper (envOfC "_law_least_worths" (defScope s__law_least_worths) s.heap.objs.size f cdv))) :
    DSs (cxOf CX0 P w K mg base ["_law_bounds", "_law_rows", "_law_worths", "_law_term", "_law_k", "_law_moved", "_law_l", "_law_r", "_law_gap"] "_law_least_worths" (defScope s__law_least_worths) f cdv A outer s H E).nox (defBody s__law_least_worths) (rd__law_least_worths sp__law_ranged sp__law_terms) := by
  have hu := hr.r.units
  have hu5 : (A.deeper (envOfC "_law_least_worths" (defScope s__law_least_worths) s.heap.objs.size f cdv)).units + 65 < cLine := by have := hr.r.un; omega
  exact (dss_cons (ds_set 1 sc__law_least_worths.nd rfl (by first | exact Or.inl rfl | exact Or.inr rfl) (de_callG G__law_ranged hr (by omega) (by rfl) (da_cons (de_var 0) da_nil)))
    (dss_cons (ds_set 2 sc__law_least_worths.nd rfl (by first | exact Or.inl rfl | exact Or.inr rfl) (de_disp (trs := [((dC (.str (Str.ofString "0"))), (dC (.int 0)))]) (pps_cons de_str de_int pps_nil) (by rfl) (by rfl) (by simp) (by decide)))
    (dss_cons (ds_for PassesOwn.never (by rfl) (di_seq (de_callG G__law_terms hr (by omega) (by rfl) (da_cons (de_var 0) da_nil))) (dg_name 3 okAt0 sc__law_least_worths.nd rfl (by first | exact Or.inl rfl | exact Or.inr rfl)) (dss_one (ds_asg de_int (dg_sub hu (de_var 2) (de_var 3)))))
    (dss_cons (ds_for PassesOwn.never (by rfl) (di_range1 (by rfl) B.n_range (da_cons (de_op od_add (de_callB xd_len (by rfl) B.n_len (by decide +kernel) (da_cons (de_var 2) da_nil)) de_int) da_nil)) (dg_name 4 okAt0 sc__law_least_worths.nd rfl (by first | exact Or.inl rfl | exact Or.inr rfl)) (dss_cons (ds_set 5 sc__law_least_worths.nd rfl (by first | exact Or.inl rfl | exact Or.inr rfl) de_bl)
    (dss_cons (ds_for PassesOwn.never (by rfl) (di_seq (de_var 1)) (dg_tup (by rfl) (dgs_cons (dg_name 6 okAt0 sc__law_least_worths.nd rfl (by first | exact Or.inl rfl | exact Or.inr rfl)) (dgs_cons (dg_name 7 okAt0 sc__law_least_worths.nd rfl (by first | exact Or.inl rfl | exact Or.inr rfl)) (dgs_cons (dg_name 8 okAt0 sc__law_least_worths.nd rfl (by first | exact Or.inl rfl | exact Or.inr rfl)) dgs_nil)))) (dss_one (ds_if (dt_cmpR od_gt (de_op od_sub (de_ix hu (de_var 2) (de_var 6) (fun _ _ => rfl)) (de_var 8)) (de_ix hu (de_var 2) (de_var 7) (fun _ _ => rfl)) (by rfl)) (dss_cons (ds_asg (de_op od_sub (de_ix hu (de_var 2) (de_var 6) (fun _ _ => rfl)) (de_var 8)) (dg_sub hu (de_var 2) (de_var 7)))
    (dss_one (ds_set 5 sc__law_least_worths.nd rfl (by first | exact Or.inl rfl | exact Or.inr rfl) de_bl))) dss_nil)))
    (dss_cons (ds_if (dt_cmpR od_gt (de_ix hu (de_var 2) de_str (fun _ _ => rfl)) de_int (by rfl)) (dss_one (ds_ret de_non)) dss_nil)
    (dss_one (ds_if (dt_not (dt_tru (de_var 5))) (dss_one (ds_ret (de_var 2))) dss_nil))))))
    (dss_one (ds_ret de_non))))))
theorem good__law_least_worths {sp : P1} {sp__law_ranged : P1} {sp__law_terms : P1} (T : TopF K mg "_law_least_worths" "_law_least_worths" s__law_least_worths ["_law_bounds"]) (B : Blt mg) (G__law_ranged : Good P w K mg base 2 "_law_ranged" ["_law_bounds"] sp__law_ranged) (G__law_terms : Good P w K mg base 1 "_law_terms" ["_law_bounds"] sp__law_terms) (len : ∀ ds h Q, sp ds h Q → ds.length = 1) (sat : ∀ ds h Q, sp ds h Q → rd__law_least_worths sp__law_ranged sp__law_terms (endN Q) (startD 9 ds) h) : Good P w K mg base 3 "_law_least_worths" ["_law_bounds"] sp :=
  good_ok T sc__law_least_worths len (body__law_least_worths B G__law_ranged G__law_terms) sat
theorem body__law_is_ring {sp__law_ranged : P1} {sp__law_is_int : P1} (B : Blt mg) (G__law_ranged : Good P w K mg base 2 "_law_ranged" ["_law_bounds"] sp__law_ranged) (G__law_is_int : Good P w K mg base 1 "_law_is_int" ["_law_thing"] sp__law_is_int) (f : Addr) (cdv : Value) (A : Around) (outer : List Env) (s : Shared) (H : Hp) (E : XK) (hr : RoomG 2 (A.deeper (envOfC "_law_is_ring" (defScope s__law_is_ring) s.heap.objs.size f cdv))) :
    DSs (cxOf CX0 P w K mg base ["_law_bounds", "_law_ring", "_law_rows", "_law_bound", "_law_k"] "_law_is_ring" (defScope s__law_is_ring) f cdv A outer s H E).nox (defBody s__law_is_ring) (rd__law_is_ring sp__law_ranged sp__law_is_int) := by
  have hu := hr.r.units
  have hu5 : (A.deeper (envOfC "_law_is_ring" (defScope s__law_is_ring) s.heap.objs.size f cdv)).units + 65 < cLine := by have := hr.r.un; omega
  exact (dss_cons (ds_if (dt_w (dw_or (dt_not (dt_tru (de_callB xd_isi (by rfl) B.n_isinstance (by decide +kernel) (da_cons (de_var 1) (da_cons (de_ty (T := "tuple") (by rfl) B.n_tuple (by decide +kernel)) da_nil))))) (dw_or1 (dt_cmpR (od_eq hu) (de_callB xd_len (by rfl) B.n_len (by decide +kernel) (da_cons (de_var 1) da_nil)) de_int (by rfl))))) (dss_one (ds_ret de_bl)) dss_nil)
    (dss_cons (ds_set 2 sc__law_is_ring.nd rfl (by first | exact Or.inl rfl | exact Or.inr rfl) (de_callG G__law_ranged hr (by omega) (by rfl) (da_cons (de_var 0) da_nil)))
    (dss_cons (ds_for PassesOwn.never (by rfl) (di_seq (de_var 1)) (dg_name 3 okAt0 sc__law_is_ring.nd rfl (by first | exact Or.inl rfl | exact Or.inr rfl)) (dss_one (ds_if (dt_w (dw_or (dt_not (dt_tru (de_callB xd_isi (by rfl) B.n_isinstance (by decide +kernel) (da_cons (de_var 3) (da_cons (de_ty (T := "tuple") (by rfl) B.n_tuple (by decide +kernel)) da_nil))))) (dw_or (dt_cmpR (od_ne hu) (de_callB xd_len (by rfl) B.n_len (by decide +kernel) (da_cons (de_var 3) da_nil)) de_int (by rfl)) (dw_or (dt_not (dt_tru (de_callG G__law_is_int hr (by omega) (by rfl) (da_cons (de_ix hu (de_var 3) de_int (fun _ _ => rfl)) da_nil)))) (dw_or1 (dt_cmpR (od_notIn hu5) (de_var 3) (de_var 2) (by rfl))))))) (dss_one (ds_ret de_bl)) dss_nil)))
    (dss_cons (ds_for PassesOwn.never (by rfl) (di_range1 (by rfl) B.n_range (da_cons (de_callB xd_len (by rfl) B.n_len (by decide +kernel) (da_cons (de_var 1) da_nil)) da_nil)) (dg_name 4 okAt0 sc__law_is_ring.nd rfl (by first | exact Or.inl rfl | exact Or.inr rfl)) (dss_one (ds_if (dt_cmpR (od_ne hu) (de_ix hu (de_ix hu (de_var 1) (de_var 4) (fun _ _ => rfl)) de_int (fun _ _ => rfl)) (de_ix hu (de_ix hu (de_var 1) (de_ifExp (dt_cmpR od_lt (de_op od_add (de_var 4) de_int) (de_callB xd_len (by rfl) B.n_len (by decide +kernel) (da_cons (de_var 1) da_nil)) (by rfl)) (de_op od_add (de_var 4) de_int) de_int) (fun _ _ => rfl)) de_int (fun _ _ => rfl)) (by rfl)) (dss_one (ds_ret de_bl)) dss_nil)))
    (dss_one (ds_ret (de_cmpR od_lt (de_callB (xd_sum rfl) (by rfl) B.n_sum (by decide +kernel) (da_cons (de_lc (own := [("_law_bound", 3)]) (by rfl) sc__law_is_ring.nd (di_seq (de_var 1)) (blkOk_by (own := [("_law_bound", 3)]) (N := ["_law_bounds", "_law_ring", "_law_rows", "_law_bound", "_law_k"]) (sc := defScope s__law_is_ring) (by decide +kernel)) (fun _ _ _ _ _ => (dg_name 3 (okAtW (by decide)) sc__law_is_ring.nd rfl (by first | exact Or.inl rfl | exact Or.inr rfl))) (fun _ _ _ _ _ => dts_nil) (fun _ _ _ _ _ => (de_ix hu (de_var 3) de_int (fun _ _ => rfl)))) da_nil)) de_int (by rfl))))))))
theorem good__law_is_ring {sp : P1} {sp__law_ranged : P1} {sp__law_is_int : P1} (T : TopF K mg "_law_is_ring" "_law_is_ring" s__law_is_ring ["_law_bounds", "_law_ring"]) (B : Blt mg) (G__law_ranged : Good P w K mg base 2 "_law_ranged" ["_law_bounds"] sp__law_ranged) (G__law_is_int : Good P w K mg base 1 "_law_is_int" ["_law_thing"] sp__law_is_int) (len : ∀ ds h Q, sp ds h Q → ds.length = 2) (sat : ∀ ds h Q, sp ds h Q → rd__law_is_ring sp__law_ranged sp__law_is_int (endN Q) (startD 5 ds) h) : Good P w K mg base 3 "_law_is_ring" ["_law_bounds", "_law_ring"] sp :=
  good_ok T sc__law_is_ring len (body__law_is_ring B G__law_ranged G__law_is_int) sat
theorem body__law_drawn {sp__law_pick : P1} {sp__law_draw : P1} (B : Blt mg) (G__law_pick : Good P w K mg base 2 "_law_pick" ["_law_d", "_law_row"] sp__law_pick) (G__law_draw : Good P w K mg base 1 "_law_draw" ["_law_d", "_law_many"] sp__law_draw) (f : Addr) (cdv : Value) (A : Around) (outer : List Env) (s : Shared) (H : Hp) (E : XK) (hr : RoomG 2 (A.deeper (envOfC "_law_drawn" (defScope s__law_drawn) s.heap.objs.size f cdv))) :
    DSs (cxOf CX0 P w K mg base ["_law_d", "_law_terms_here", "_law_mood", "_law_worths", "_law_term", "_law_found", "_law_k", "_law_l", "_law_r", "_law_gap"] "_law_drawn" (defScope s__law_drawn) f cdv A outer s H E).nox (defBody s__law_drawn) (rd__law_drawn sp__law_pick sp__law_draw) := by
  have hu := hr.r.units
  have hu5 : (A.deeper (envOfC "_law_drawn" (defScope s__law_drawn) s.heap.objs.size f cdv)).units + 65 < cLine := by have := hr.r.un; omega
  exact (dss_cons (ds_set 3 sc__law_drawn.nd rfl (by first | exact Or.inl rfl | exact Or.inr rfl) (de_disp (trs := [((dC (.str (Str.ofString "0"))), (dC (.int 0)))]) (pps_cons de_str de_int pps_nil) (by rfl) (by rfl) (by simp) (by decide)))
    (dss_cons (ds_for PassesOwn.never (by rfl) (di_seq (de_var 1)) (dg_name 4 okAt0 sc__law_drawn.nd rfl (by first | exact Or.inl rfl | exact Or.inr rfl)) (dss_one (ds_asg (de_callG G__law_pick hr (by omega) (by rfl) (da_cons (de_var 0) (da_cons (de_lst (da_cons de_int (da_cons de_int (da_cons de_int (da_cons de_int (da_cons (de_callG G__law_draw hr (by omega) (by rfl) (da_cons (de_var 0) (da_cons de_int da_nil))) (da_cons (de_callG G__law_draw hr (by omega) (by rfl) (da_cons (de_var 0) (da_cons de_int da_nil))) (da_cons (de_callG G__law_draw hr (by omega) (by rfl) (da_cons (de_var 0) (da_cons de_int da_nil))) da_nil)))))))) da_nil))) (dg_sub hu (de_var 3) (de_var 4)))))
    (dss_cons (ds_set 5 sc__law_drawn.nd rfl (by first | exact Or.inl rfl | exact Or.inr rfl) (de_lst da_nil))
    (dss_cons (ds_for PassesOwn.never (by rfl) (di_range1 (by rfl) B.n_range (da_cons (de_callG G__law_draw hr (by omega) (by rfl) (da_cons (de_var 0) (da_cons de_int da_nil))) da_nil)) (dg_name 6 okAt0 sc__law_drawn.nd rfl (by first | exact Or.inl rfl | exact Or.inr rfl)) (dss_cons (ds_set 7 sc__law_drawn.nd rfl (by first | exact Or.inl rfl | exact Or.inr rfl) (de_callG G__law_pick hr (by omega) (by rfl) (da_cons (de_var 0) (da_cons (de_op od_add (de_var 1) (de_lst (da_cons de_str da_nil))) da_nil))))
    (dss_cons (ds_set 8 sc__law_drawn.nd rfl (by first | exact Or.inl rfl | exact Or.inr rfl) (de_callG G__law_pick hr (by omega) (by rfl) (da_cons (de_var 0) (da_cons (de_op od_add (de_var 1) (de_lst (da_cons de_str da_nil))) da_nil))))
    (dss_cons (ds_set 9 sc__law_drawn.nd rfl (by first | exact Or.inl rfl | exact Or.inr rfl) (de_op od_add (de_op od_sub (de_ix hu (de_var 3) (de_var 7) (fun _ _ => rfl)) (de_ix hu (de_var 3) (de_var 8) (fun _ _ => rfl))) (de_callG G__law_pick hr (by omega) (by rfl) (da_cons (de_var 0) (da_cons (de_lst (da_cons de_int (da_cons de_int (da_cons de_int (da_cons (de_callG G__law_draw hr (by omega) (by rfl) (da_cons (de_var 0) (da_cons de_int da_nil))) (da_cons (de_callG G__law_draw hr (by omega) (by rfl) (da_cons (de_var 0) (da_cons de_int da_nil))) da_nil)))))) da_nil)))))
    (dss_cons (ds_if (dt_w (dw_and (dt_cmpR (od_eq hu) (de_var 2) de_int (by rfl)) (dw_and1 (dt_cmpR (od_eq hu) (de_callG G__law_draw hr (by omega) (by rfl) (da_cons (de_var 0) (da_cons de_int da_nil))) de_int (by rfl))))) (dss_one (ds_set 9 sc__law_drawn.nd rfl (by first | exact Or.inl rfl | exact Or.inr rfl) (de_callG G__law_pick hr (by omega) (by rfl) (da_cons (de_var 0) (da_cons (de_lst (da_cons (de_op od_sub (de_callG G__law_draw hr (by omega) (by rfl) (da_cons (de_var 0) (da_cons de_int da_nil))) de_int) (da_cons (de_op od_sub (de_callG G__law_draw hr (by omega) (by rfl) (da_cons (de_var 0) (da_cons de_int da_nil))) de_int) (da_cons de_int (da_cons (de_neg de_int) da_nil))))) da_nil))))) dss_nil)
    (dss_one (ds_expr (de_lm PySem.F.slot_list_append PySem.F.type_list_append xm_append (de_var 5) (da_cons (de_tup (da_cons (de_var 7) (da_cons (de_var 8) (da_cons (de_var 9) da_nil)))) da_nil)))))))))
    (dss_one (ds_ret (de_callTy xd_tuple (by rfl) B.n_tuple (by decide +kernel) (da_cons (de_var 5) da_nil))))))))
theorem good__law_drawn {sp : P1} {sp__law_pick : P1} {sp__law_draw : P1} (T : TopF K mg "_law_drawn" "_law_drawn" s__law_drawn ["_law_d", "_law_terms_here", "_law_mood"]) (B : Blt mg) (G__law_pick : Good P w K mg base 2 "_law_pick" ["_law_d", "_law_row"] sp__law_pick) (G__law_draw : Good P w K mg base 1 "_law_draw" ["_law_d", "_law_many"] sp__law_draw) (len : ∀ ds h Q, sp ds h Q → ds.length = 3) (sat : ∀ ds h Q, sp ds h Q → rd__law_drawn sp__law_pick sp__law_draw (endN Q) (startD 10 ds) h) : Good P w K mg base 3 "_law_drawn" ["_law_d", "_law_terms_here", "_law_mood"] sp :=
  good_ok T sc__law_drawn len (body__law_drawn B G__law_pick G__law_draw) sat
theorem body__law_asked {sp__law_pick : P1} {sp__law_draw : P1} (B : Blt mg) (G__law_pick : Good P w K mg base 2 "_law_pick" ["_law_d", "_law_row"] sp__law_pick) (G__law_draw : Good P w K mg base 1 "_law_draw" ["_law_d", "_law_many"] sp__law_draw) (f : Addr) (cdv : Value) (A : Around) (outer : List Env) (s : Shared) (H : Hp) (E : XK) (hr : RoomG 2 (A.deeper (envOfC "_law_asked" (defScope s__law_asked) s.heap.objs.size f cdv))) :
    DSs (cxOf CX0 P w K mg base ["_law_d", "_law_terms_here", "_law_closure_here", "_law_can", "_law_l", "_law_r", "_law_way", "_law_near"] "_law_asked" (defScope s__law_asked) f cdv A outer s H E).nox (defBody s__law_asked) (rd__law_asked sp__law_pick sp__law_draw) := by
  have hu := hr.r.units
  have hu5 : (A.deeper (envOfC "_law_asked" (defScope s__law_asked) s.heap.objs.size f cdv)).units + 65 < cLine := by have := hr.r.un; omega
  exact (dss_cons (ds_set 4 sc__law_asked.nd rfl (by first | exact Or.inl rfl | exact Or.inr rfl) (de_callG G__law_pick hr (by omega) (by rfl) (da_cons (de_var 0) (da_cons (de_var 1) da_nil))))
    (dss_cons (ds_set 5 sc__law_asked.nd rfl (by first | exact Or.inl rfl | exact Or.inr rfl) (de_callG G__law_pick hr (by omega) (by rfl) (da_cons (de_var 0) (da_cons (de_var 1) da_nil))))
    (dss_cons (ds_set 6 sc__law_asked.nd rfl (by first | exact Or.inl rfl | exact Or.inr rfl) (de_callG G__law_draw hr (by omega) (by rfl) (da_cons (de_var 0) (da_cons de_int da_nil))))
    (dss_cons (ds_if (dt_cmpR (od_eq hu) (de_var 6) de_int (by rfl)) (dss_one (ds_ret (de_tup (da_cons (de_var 4) (da_cons (de_var 5) (da_cons (de_op od_sub (de_callG G__law_draw hr (by omega) (by rfl) (da_cons (de_var 0) (da_cons de_int da_nil))) de_int) da_nil)))))) dss_nil)
    (dss_cons (ds_set 7 sc__law_asked.nd rfl (by first | exact Or.inl rfl | exact Or.inr rfl) (de_ifExp (dt_tru (de_var 3)) (de_ix hu (de_var 2) (de_tup (da_cons (de_var 4) (da_cons (de_var 5) da_nil))) (fun _ _ => rfl)) (de_op od_sub (de_callG G__law_draw hr (by omega) (by rfl) (da_cons (de_var 0) (da_cons de_int da_nil))) de_int)))
    (dss_one (ds_ret (de_tup (da_cons (de_var 4) (da_cons (de_var 5) (da_cons (de_op od_add (de_var 7) (de_ix hu (de_lst (da_cons de_int (da_cons (de_neg de_int) (da_cons de_int (da_cons (de_op od_sub (de_callG G__law_draw hr (by omega) (by rfl) (da_cons (de_var 0) (da_cons de_int da_nil))) de_int) da_nil))))) (de_var 6) (fun _ _ => rfl))) da_nil)))))))))))
theorem good__law_asked {sp : P1} {sp__law_pick : P1} {sp__law_draw : P1} (T : TopF K mg "_law_asked" "_law_asked" s__law_asked ["_law_d", "_law_terms_here", "_law_closure_here", "_law_can"]) (B : Blt mg) (G__law_pick : Good P w K mg base 2 "_law_pick" ["_law_d", "_law_row"] sp__law_pick) (G__law_draw : Good P w K mg base 1 "_law_draw" ["_law_d", "_law_many"] sp__law_draw) (len : ∀ ds h Q, sp ds h Q → ds.length = 4) (sat : ∀ ds h Q, sp ds h Q → rd__law_asked sp__law_pick sp__law_draw (endN Q) (startD 8 ds) h) : Good P w K mg base 3 "_law_asked" ["_law_d", "_law_terms_here", "_law_closure_here", "_law_can"] sp :=
  good_ok T sc__law_asked len (body__law_asked B G__law_pick G__law_draw) sat
theorem body__law_worths_told {sp__law_is_rows : P1} {sp__law_terms : P1} (B : Blt mg) (G__law_is_rows : Good P w K mg base 2 "_law_is_rows" ["_law_rows", "_law_kinds"] sp__law_is_rows) (G__law_terms : Good P w K mg base 1 "_law_terms" ["_law_bounds"] sp__law_terms) (f : Addr) (cdv : Value) (A : Around) (outer : List Env) (s : Shared) (H : Hp) (E : XK) (hr : RoomG 2 (A.deeper (envOfC "_law_worths_told" (defScope s__law_worths_told) s.heap.objs.size f cdv))) :
    DSs (cxOf CX0 P w K mg base ["_law_bounds", "_law_bound", "_law_pairs", "_law_worths", "_law_term", "_law_worth", "_law_l", "_law_r", "_law_gap"] "_law_worths_told" (defScope s__law_worths_told) f cdv A outer s H E).nox (defBody s__law_worths_told) (rd__law_worths_told sp__law_is_rows sp__law_terms) := by
  have hu := hr.r.units
  have hu5 : (A.deeper (envOfC "_law_worths_told" (defScope s__law_worths_told) s.heap.objs.size f cdv)).units + 65 < cLine := by have := hr.r.un; omega
  exact (dss_cons (ds_if (dt_not (dt_tru (de_callG G__law_is_rows hr (by omega) (by rfl) (da_cons (de_var 2) (da_cons de_str da_nil))))) (dss_one (ds_ret de_non)) dss_nil)
    (dss_cons (ds_set 3 sc__law_worths_told.nd rfl (by first | exact Or.inl rfl | exact Or.inr rfl) (de_disp (trs := [((dC (.str (Str.ofString "0"))), (dC (.int 0)))]) (pps_cons de_str de_int pps_nil) (by rfl) (by rfl) (by simp) (by decide)))
    (dss_cons (ds_for PassesOwn.never (by rfl) (di_seq (de_var 2)) (dg_tup (by rfl) (dgs_cons (dg_name 4 okAt0 sc__law_worths_told.nd rfl (by first | exact Or.inl rfl | exact Or.inr rfl)) (dgs_cons (dg_name 5 okAt0 sc__law_worths_told.nd rfl (by first | exact Or.inl rfl | exact Or.inr rfl)) dgs_nil))) (dss_cons (ds_if (dt_w (dw_or (dt_w (dw_and (dt_cmpR (od_in hu5) (de_var 4) (de_var 3) (by rfl)) (dw_and1 (dt_cmpR (od_ne hu) (de_tup (da_cons (de_var 4) (da_cons (de_var 5) da_nil))) (de_tup (da_cons de_str (da_cons de_int da_nil))) (by rfl))))) (dw_or1 (dt_not (dt_chain od_le od_le de_int (de_var 5) de_int))))) (dss_one (ds_ret de_non)) dss_nil)
    (dss_one (ds_asg (de_var 5) (dg_sub hu (de_var 3) (de_var 4))))))
    (dss_cons (ds_if (dt_cmpR (od_ne hu) (de_callB (xd_sorted hu rfl) (by rfl) B.n_sorted (by decide +kernel) (da_cons (de_var 3) da_nil)) (de_callB (xd_sorted hu rfl) (by rfl) B.n_sorted (by decide +kernel) (da_cons (de_op od_add (de_callG G__law_terms hr (by omega) (by rfl) (da_cons (de_op od_add (de_var 0) (de_tup (da_cons (de_var 1) da_nil))) da_nil)) (de_lst (da_cons de_str da_nil))) da_nil)) (by rfl)) (dss_one (ds_ret de_non)) dss_nil)
    (dss_cons (ds_for PassesOwn.never (by rfl) (di_seq (de_var 0)) (dg_tup (by rfl) (dgs_cons (dg_name 6 okAt0 sc__law_worths_told.nd rfl (by first | exact Or.inl rfl | exact Or.inr rfl)) (dgs_cons (dg_name 7 okAt0 sc__law_worths_told.nd rfl (by first | exact Or.inl rfl | exact Or.inr rfl)) (dgs_cons (dg_name 8 okAt0 sc__law_worths_told.nd rfl (by first | exact Or.inl rfl | exact Or.inr rfl)) dgs_nil)))) (dss_one (ds_if (dt_cmpR od_gt (de_ix hu (de_var 3) (de_var 6) (fun _ _ => rfl)) (de_op od_add (de_ix hu (de_var 3) (de_var 7) (fun _ _ => rfl)) (de_var 8)) (by rfl)) (dss_one (ds_ret de_non)) dss_nil)))
    (dss_one (ds_ret (de_ifExp (dt_cmpR od_gt (de_ix hu (de_var 3) (de_ix hu (de_var 1) de_int (fun _ _ => rfl)) (fun _ _ => rfl)) (de_op od_add (de_ix hu (de_var 3) (de_ix hu (de_var 1) de_int (fun _ _ => rfl)) (fun _ _ => rfl)) (de_ix hu (de_var 1) de_int (fun _ _ => rfl))) (by rfl)) (de_var 3) de_non))))))))
theorem good__law_worths_told {sp : P1} {sp__law_is_rows : P1} {sp__law_terms : P1} (T : TopF K mg "_law_worths_told" "_law_worths_told" s__law_worths_told ["_law_bounds", "_law_bound", "_law_pairs"]) (B : Blt mg) (G__law_is_rows : Good P w K mg base 2 "_law_is_rows" ["_law_rows", "_law_kinds"] sp__law_is_rows) (G__law_terms : Good P w K mg base 1 "_law_terms" ["_law_bounds"] sp__law_terms) (len : ∀ ds h Q, sp ds h Q → ds.length = 3) (sat : ∀ ds h Q, sp ds h Q → rd__law_worths_told sp__law_is_rows sp__law_terms (endN Q) (startD 9 ds) h) : Good P w K mg base 3 "_law_worths_told" ["_law_bounds", "_law_bound", "_law_pairs"] sp :=
  good_ok T sc__law_worths_told len (body__law_worths_told B G__law_is_rows G__law_terms) sat
theorem body__law_follows {sp_follows : P1} {sp__law_is_ring : P1} {sp__law_terms : P1} {sp_settle : P1} (B : Blt mg) (G_follows : Good P w K mg base 3 "follows" ["bounds", "bound"] sp_follows) (G__law_is_ring : Good P w K mg base 3 "_law_is_ring" ["_law_bounds", "_law_ring"] sp__law_is_ring) (G__law_terms : Good P w K mg base 1 "_law_terms" ["_law_bounds"] sp__law_terms) (G_settle : Good P w K mg base 2 "settle" ["bounds"] sp_settle) (f : Addr) (cdv : Value) (A : Around) (outer : List Env) (s : Shared) (H : Hp) (E : XK) (hr : RoomG 3 (A.deeper (envOfC "_law_follows" (defScope s__law_follows) s.heap.objs.size f cdv))) :
    DSs (cxOf CX0 P w K mg base ["_law_bounds", "_law_bound", "_law_least", "_law_told", "_law_more", "_law_terms_here", "_law_due", "_law_term"] "_law_follows" (defScope s__law_follows) f cdv A outer s H E).nox (defBody s__law_follows) (rd__law_follows sp_follows sp__law_is_ring sp__law_terms sp_settle) := by
  have hu := hr.r.units
  have hu5 : (A.deeper (envOfC "_law_follows" (defScope s__law_follows) s.heap.objs.size f cdv)).units + 65 < cLine := by have := hr.r.un; omega
  exact (dss_cons (ds_set 3 sc__law_follows.nd rfl (by first | exact Or.inl rfl | exact Or.inr rfl) (de_callG G_follows hr (by omega) (by rfl) (da_cons (de_var 0) (da_cons (de_var 1) da_nil))))
    (dss_cons (ds_set 4 sc__law_follows.nd rfl (by first | exact Or.inl rfl | exact Or.inr rfl) (de_op od_add (de_var 0) (de_tup (da_cons (de_tup (da_cons (de_ix hu (de_var 1) de_int (fun _ _ => rfl)) (da_cons (de_ix hu (de_var 1) de_int (fun _ _ => rfl)) (da_cons (de_op od_sub (de_neg (de_ix hu (de_var 1) de_int (fun _ _ => rfl))) de_int) da_nil)))) da_nil))))
    (dss_cons (ds_if (dt_w (dw_or (dt_not (dt_tru (de_callB xd_isi (by rfl) B.n_isinstance (by decide +kernel) (da_cons (de_var 3) (da_cons (de_ty (T := "tuple") (by rfl) B.n_tuple (by decide +kernel)) da_nil))))) (dw_or (dt_cmpR (od_ne hu) (de_callB xd_len (by rfl) B.n_len (by decide +kernel) (da_cons (de_var 3) da_nil)) de_int (by rfl)) (dw_or (dt_cmpR (od_ne hu) (de_ix hu (de_var 3) de_int (fun _ _ => rfl)) de_str (by rfl)) (dw_or1 (dt_not (dt_tru (de_callG G__law_is_ring hr (by omega) (by rfl) (da_cons (de_var 4) (da_cons (de_ix hu (de_var 3) de_int (fun _ _ => rfl)) da_nil)))))))))) (dss_one (ds_ret de_bl)) dss_nil)
    (dss_cons (ds_if (dt_cmpR od_is (de_var 2) de_non (by rfl)) (dss_one (ds_ret de_bl)) dss_nil)
    (dss_cons (ds_set 5 sc__law_follows.nd rfl (by first | exact Or.inl rfl | exact Or.inr rfl) (de_callG G__law_terms hr (by omega) (by rfl) (da_cons (de_op od_add (de_var 0) (de_tup (da_cons (de_var 1) da_nil))) da_nil)))
    (dss_cons (ds_setLc 6 (own := [("_law_term", 7)]) (by rfl) sc__law_follows.nd rfl rfl (sw_true rfl rfl rfl (by decide +kernel)) (di_seq (de_var 5)) (blkOk_by (own := [("_law_term", 7)]) (N := ["_law_bounds", "_law_bound", "_law_least", "_law_told", "_law_more", "_law_terms_here", "_law_due", "_law_term"]) (sc := defScope s__law_follows) (by decide +kernel)) (fun _ _ _ _ _ => (dg_name 7 (okAtW (by decide)) sc__law_follows.nd rfl (by first | exact Or.inl rfl | exact Or.inr rfl))) (fun _ _ _ _ _ => dts_nil) (fun _ _ _ _ _ => (de_tup (da_cons (de_var 7) (da_cons (de_ifExp (dt_cmpR (od_in hu5) (de_var 7) (de_var 2) (by rfl)) (de_ix hu (de_var 2) (de_var 7) (fun _ _ => rfl)) de_int) da_nil)))))
    (dss_one (ds_ret (de_cmpR (od_eq hu) (de_callB (xd_repr hu5 hr.g) (by rfl) B.n_repr (by decide +kernel) (da_cons (de_callG G_settle hr (by omega) (by rfl) (da_cons (de_op od_add (de_var 0) (de_tup (da_cons (de_var 1) da_nil))) da_nil)) da_nil)) (de_callB (xd_repr hu5 hr.g) (by rfl) B.n_repr (by decide +kernel) (da_cons (de_tup (da_cons de_str (da_cons (de_callTy xd_tuple (by rfl) B.n_tuple (by decide +kernel) (da_cons (de_var 6) da_nil)) da_nil))) da_nil)) (by rfl))))))))))
theorem good__law_follows {sp : P1} {sp_follows : P1} {sp__law_is_ring : P1} {sp__law_terms : P1} {sp_settle : P1} (T : TopF K mg "_law_follows" "_law_follows" s__law_follows ["_law_bounds", "_law_bound", "_law_least"]) (B : Blt mg) (G_follows : Good P w K mg base 3 "follows" ["bounds", "bound"] sp_follows) (G__law_is_ring : Good P w K mg base 3 "_law_is_ring" ["_law_bounds", "_law_ring"] sp__law_is_ring) (G__law_terms : Good P w K mg base 1 "_law_terms" ["_law_bounds"] sp__law_terms) (G_settle : Good P w K mg base 2 "settle" ["bounds"] sp_settle) (len : ∀ ds h Q, sp ds h Q → ds.length = 3) (sat : ∀ ds h Q, sp ds h Q → rd__law_follows sp_follows sp__law_is_ring sp__law_terms sp_settle (endN Q) (startD 8 ds) h) : Good P w K mg base 4 "_law_follows" ["_law_bounds", "_law_bound", "_law_least"] sp :=
  good_ok T sc__law_follows len (body__law_follows B G_follows G__law_is_ring G__law_terms G_settle) sat
theorem body__law_breaks_by {sp_follows : P1} {sp__law_worths_told : P1} {sp__law_terms : P1} {sp_settle : P1} {sp__law_is_ring : P1} (B : Blt mg) (G_follows : Good P w K mg base 3 "follows" ["bounds", "bound"] sp_follows) (G__law_worths_told : Good P w K mg base 3 "_law_worths_told" ["_law_bounds", "_law_bound", "_law_pairs"] sp__law_worths_told) (G__law_terms : Good P w K mg base 1 "_law_terms" ["_law_bounds"] sp__law_terms) (G_settle : Good P w K mg base 2 "settle" ["bounds"] sp_settle) (G__law_is_ring : Good P w K mg base 3 "_law_is_ring" ["_law_bounds", "_law_ring"] sp__law_is_ring) (f : Addr) (cdv : Value) (A : Around) (outer : List Env) (s : Shared) (H : Hp) (E : XK) (hr : RoomG 3 (A.deeper (envOfC "_law_breaks_by" (defScope s__law_breaks_by) s.heap.objs.size f cdv))) :
    DSs (cxOf CX0 P w K mg base ["_law_bounds", "_law_bound", "_law_told", "_law_worths", "_law_pairs", "_law_fixed", "_law_again", "_law_other", "_law_term", "_law_pair"] "_law_breaks_by" (defScope s__law_breaks_by) f cdv A outer s H E).nox (defBody s__law_breaks_by) (rd__law_breaks_by sp_follows sp__law_worths_told sp__law_terms sp_settle sp__law_is_ring) := by
  have hu := hr.r.units
  have hu5 : (A.deeper (envOfC "_law_breaks_by" (defScope s__law_breaks_by) s.heap.objs.size f cdv)).units + 65 < cLine := by have := hr.r.un; omega
  exact (dss_cons (ds_set 2 sc__law_breaks_by.nd rfl (by first | exact Or.inl rfl | exact Or.inr rfl) (de_callG G_follows hr (by omega) (by rfl) (da_cons (de_var 0) (da_cons (de_var 1) da_nil))))
    (dss_cons (ds_if (dt_w (dw_or (dt_not (dt_tru (de_callB xd_isi (by rfl) B.n_isinstance (by decide +kernel) (da_cons (de_var 2) (da_cons (de_ty (T := "tuple") (by rfl) B.n_tuple (by decide +kernel)) da_nil))))) (dw_or (dt_cmpR (od_neX hu) (de_callB xd_len (by rfl) B.n_len (by decide +kernel) (da_cons (de_var 2) da_nil)) de_int (by rfl)) (dw_or1 (dt_cmpR (od_neX hu) (de_ix hu (de_var 2) de_int (fun _ _ => rfl)) de_str (by rfl)))))) (dss_one (ds_ret de_bl)) dss_nil)
    (dss_cons (ds_set 3 sc__law_breaks_by.nd rfl (by first | exact Or.inl rfl | exact Or.inr rfl) (de_callG G__law_worths_told hr (by omega) (by rfl) (da_cons (de_var 0) (da_cons (de_var 1) (da_cons (de_ix hu (de_var 2) de_int (fun _ _ => rfl)) da_nil)))))
    (dss_cons (ds_if (dt_cmpR od_is (de_var 3) de_non (by rfl)) (dss_one (ds_ret de_bl)) dss_nil)
    (dss_cons (ds_setLc 4 (own := [("_law_term", 8)]) (by rfl) sc__law_breaks_by.nd rfl rfl (sw_true rfl rfl rfl (by decide +kernel)) (di_seq (de_callG G__law_terms hr (by omega) (by rfl) (da_cons (de_op od_add (de_var 0) (de_tup (da_cons (de_var 1) da_nil))) da_nil))) (blkOk_by (own := [("_law_term", 8)]) (N := ["_law_bounds", "_law_bound", "_law_told", "_law_worths", "_law_pairs", "_law_fixed", "_law_again", "_law_other", "_law_term", "_law_pair"]) (sc := defScope s__law_breaks_by) (by decide +kernel)) (fun _ _ _ _ _ => (dg_name 8 (okAtW (by decide)) sc__law_breaks_by.nd rfl (by first | exact Or.inl rfl | exact Or.inr rfl))) (fun _ _ _ _ _ => dts_nil) (fun _ _ _ _ _ => (de_tup (da_cons (de_var 8) (da_cons (de_ix hu (de_var 3) (de_var 8) (fun _ _ => rfl)) da_nil)))))
    (dss_cons (ds_set 5 sc__law_breaks_by.nd rfl (by first | exact Or.inl rfl | exact Or.inr rfl) (de_callTy xd_tuple (by rfl) B.n_tuple (by decide +kernel) (da_cons (de_op od_add (de_lc (own := [("_law_pair", 9)]) (by rfl) sc__law_breaks_by.nd (di_seq (de_var 4)) (blkOk_by (own := [("_law_pair", 9)]) (N := ["_law_bounds", "_law_bound", "_law_told", "_law_worths", "_law_pairs", "_law_fixed", "_law_again", "_law_other", "_law_term", "_law_pair"]) (sc := defScope s__law_breaks_by) (by decide +kernel)) (fun _ _ _ _ _ => (dg_name 9 (okAtW (by decide)) sc__law_breaks_by.nd rfl (by first | exact Or.inl rfl | exact Or.inr rfl))) (fun _ _ _ _ _ => dts_nil) (fun _ _ _ _ _ => (de_tup (da_cons (de_ix hu (de_var 9) de_int (fun _ _ => rfl)) (da_cons de_str (da_cons (de_ix hu (de_var 9) de_int (fun _ _ => rfl)) da_nil)))))) (de_lc (own := [("_law_pair", 9)]) (by rfl) sc__law_breaks_by.nd (di_seq (de_var 4)) (blkOk_by (own := [("_law_pair", 9)]) (N := ["_law_bounds", "_law_bound", "_law_told", "_law_worths", "_law_pairs", "_law_fixed", "_law_again", "_law_other", "_law_term", "_law_pair"]) (sc := defScope s__law_breaks_by) (by decide +kernel)) (fun _ _ _ _ _ => (dg_name 9 (okAtW (by decide)) sc__law_breaks_by.nd rfl (by first | exact Or.inl rfl | exact Or.inr rfl))) (fun _ _ _ _ _ => dts_nil) (fun _ _ _ _ _ => (de_tup (da_cons de_str (da_cons (de_ix hu (de_var 9) de_int (fun _ _ => rfl)) (da_cons (de_neg (de_ix hu (de_var 9) de_int (fun _ _ => rfl))) da_nil))))))) da_nil)))
    (dss_cons (ds_if (dt_cmpR (od_neX hu) (de_callB (xd_repr hu5 hr.g) (by rfl) B.n_repr (by decide +kernel) (da_cons (de_callG G_settle hr (by omega) (by rfl) (da_cons (de_op od_add (de_var 0) (de_var 5)) da_nil)) da_nil)) (de_callB (xd_repr hu5 hr.g) (by rfl) B.n_repr (by decide +kernel) (da_cons (de_tup (da_cons de_str (da_cons (de_callTy xd_tuple (by rfl) B.n_tuple (by decide +kernel) (da_cons (de_var 4) da_nil)) da_nil))) da_nil)) (by rfl)) (dss_one (ds_ret de_bl)) dss_nil)
    (dss_cons (ds_set 6 sc__law_breaks_by.nd rfl (by first | exact Or.inl rfl | exact Or.inr rfl) (de_callG G_follows hr (by omega) (by rfl) (da_cons (de_op od_add (de_var 5) (de_var 0)) (da_cons (de_var 1) da_nil))))
    (dss_cons (ds_if (dt_w (dw_or (dt_not (dt_tru (de_callB xd_isi (by rfl) B.n_isinstance (by decide +kernel) (da_cons (de_var 6) (da_cons (de_ty (T := "tuple") (by rfl) B.n_tuple (by decide +kernel)) da_nil))))) (dw_or (dt_cmpR (od_neX hu) (de_callB xd_len (by rfl) B.n_len (by decide +kernel) (da_cons (de_var 6) da_nil)) de_int (by rfl)) (dw_or1 (dt_cmpR (od_neX hu) (de_ix hu (de_var 6) de_int (fun _ _ => rfl)) de_str (by rfl)))))) (dss_one (ds_ret de_bl)) dss_nil)
    (dss_cons (ds_if (dt_cmpR (od_neX hu) (de_callG G__law_worths_told hr (by omega) (by rfl) (da_cons (de_op od_add (de_var 5) (de_var 0)) (da_cons (de_var 1) (da_cons (de_ix hu (de_var 6) de_int (fun _ _ => rfl)) da_nil)))) (de_var 3) (by rfl)) (dss_one (ds_ret de_bl)) dss_nil)
    (dss_cons (ds_set 7 sc__law_breaks_by.nd rfl (by first | exact Or.inl rfl | exact Or.inr rfl) (de_callG G_follows hr (by omega) (by rfl) (da_cons (de_op od_add (de_var 0) (de_var 5)) (da_cons (de_tup (da_cons (de_ix hu (de_var 1) de_int (fun _ _ => rfl)) (da_cons (de_ix hu (de_var 1) de_int (fun _ _ => rfl)) (da_cons (de_op od_sub (de_neg (de_ix hu (de_var 1) de_int (fun _ _ => rfl))) de_int) da_nil)))) da_nil))))
    (dss_cons (ds_if (dt_w (dw_or (dt_not (dt_tru (de_callB xd_isi (by rfl) B.n_isinstance (by decide +kernel) (da_cons (de_var 7) (da_cons (de_ty (T := "tuple") (by rfl) B.n_tuple (by decide +kernel)) da_nil))))) (dw_or (dt_cmpR (od_neX hu) (de_callB xd_len (by rfl) B.n_len (by decide +kernel) (da_cons (de_var 7) da_nil)) de_int (by rfl)) (dw_or1 (dt_cmpR (od_neX hu) (de_ix hu (de_var 7) de_int (fun _ _ => rfl)) de_str (by rfl)))))) (dss_one (ds_ret de_bl)) dss_nil)
    (dss_one (ds_ret (de_callG G__law_is_ring hr (by omega) (by rfl) (da_cons (de_op od_add (de_op od_add (de_var 0) (de_var 5)) (de_tup (da_cons (de_var 1) da_nil))) (da_cons (de_ix hu (de_var 7) de_int (fun _ _ => rfl)) da_nil)))))))))))))))))
theorem good__law_breaks_by {sp : P1} {sp_follows : P1} {sp__law_worths_told : P1} {sp__law_terms : P1} {sp_settle : P1} {sp__law_is_ring : P1} (T : TopF K mg "_law_breaks_by" "_law_breaks_by" s__law_breaks_by ["_law_bounds", "_law_bound"]) (B : Blt mg) (G_follows : Good P w K mg base 3 "follows" ["bounds", "bound"] sp_follows) (G__law_worths_told : Good P w K mg base 3 "_law_worths_told" ["_law_bounds", "_law_bound", "_law_pairs"] sp__law_worths_told) (G__law_terms : Good P w K mg base 1 "_law_terms" ["_law_bounds"] sp__law_terms) (G_settle : Good P w K mg base 2 "settle" ["bounds"] sp_settle) (G__law_is_ring : Good P w K mg base 3 "_law_is_ring" ["_law_bounds", "_law_ring"] sp__law_is_ring) (len : ∀ ds h Q, sp ds h Q → ds.length = 2) (sat : ∀ ds h Q, sp ds h Q → rd__law_breaks_by sp_follows sp__law_worths_told sp__law_terms sp_settle sp__law_is_ring (endN Q) (startD 10 ds) h) : Good P w K mg base 4 "_law_breaks_by" ["_law_bounds", "_law_bound"] sp :=
  good_ok T sc__law_breaks_by len (body__law_breaks_by B G_follows G__law_worths_told G__law_terms G_settle G__law_is_ring) sat
theorem body_law {sp__law_begin : P1} {sp__law_draw : P1} {sp__law_pop : P1} {sp__law_drawn : P1} {sp__law_closure : P1} {sp__law_least_worths : P1} {sp__law_asked : P1} {sp_follows : P1} {sp__law_follows : P1} {sp__law_breaks_by : P1} (B : Blt mg) (G__law_begin : Good P w K mg base 1 "_law_begin" ["_law_script"] sp__law_begin) (G__law_draw : Good P w K mg base 1 "_law_draw" ["_law_d", "_law_many"] sp__law_draw) (G__law_pop : Good P w K mg base 2 "_law_pop" ["_law_d", "_law_row"] sp__law_pop) (G__law_drawn : Good P w K mg base 3 "_law_drawn" ["_law_d", "_law_terms_here", "_law_mood"] sp__law_drawn) (G__law_closure : Good P w K mg base 1 "_law_closure" ["_law_bounds", "_law_terms_here"] sp__law_closure) (G__law_least_worths : Good P w K mg base 3 "_law_least_worths" ["_law_bounds"] sp__law_least_worths) (G__law_asked : Good P w K mg base 3 "_law_asked" ["_law_d", "_law_terms_here", "_law_closure_here", "_law_can"] sp__law_asked) (G_follows : Good P w K mg base 3 "follows" ["bounds", "bound"] sp_follows) (G__law_follows : Good P w K mg base 4 "_law_follows" ["_law_bounds", "_law_bound", "_law_least"] sp__law_follows) (G__law_breaks_by : Good P w K mg base 4 "_law_breaks_by" ["_law_bounds", "_law_bound"] sp__law_breaks_by) (f : Addr) (cdv : Value) (A : Around) (outer : List Env) (s : Shared) (H : Hp) (E : XK) (hr : RoomG 4 (A.deeper (envOfC "law" (defScope s_law) s.heap.objs.size f cdv))) :
    DSs (cxOf CX0 P w K mg base ["_law_script", "_law_d", "_law_odd", "_law_terms_here", "_law_bounds", "_law_every", "_law_closure_here", "_law_can", "_law_least", "_law_asked_here", "_law_shown", "_law_bound", "_law_k", "_law_term"] "law" (defScope s_law) f cdv A outer s H E).nox (defBody s_law) (rd_law sp__law_begin sp__law_draw sp__law_pop sp__law_drawn sp__law_closure sp__law_least_worths sp__law_asked sp_follows sp__law_follows sp__law_breaks_by) := by
  have hu := hr.r.units
  have hu5 : (A.deeper (envOfC "law" (defScope s_law) s.heap.objs.size f cdv)).units + 65 < cLine := by have := hr.r.un; omega
  exact (dss_cons (ds_set 1 sc_law.nd rfl (by first | exact Or.inl rfl | exact Or.inr rfl) (de_callG G__law_begin hr (by omega) (by rfl) (da_cons (de_var 0) da_nil)))
    (dss_cons (ds_set 2 sc_law.nd rfl (by first | exact Or.inl rfl | exact Or.inr rfl) (de_lst (da_cons de_str (da_cons de_str (da_cons de_str (da_cons de_str (da_cons de_str (da_cons de_str (da_cons de_str (da_cons de_str da_nil))))))))))
    (dss_cons (ds_setLc 3 (own := [("_law_k", 12)]) (by rfl) sc_law.nd rfl rfl (sw_true rfl rfl rfl (by decide +kernel)) (di_range1 (by rfl) B.n_range (da_cons (de_callG G__law_draw hr (by omega) (by rfl) (da_cons (de_var 1) (da_cons de_int da_nil))) da_nil)) (blkOk_by (own := [("_law_k", 12)]) (N := ["_law_script", "_law_d", "_law_odd", "_law_terms_here", "_law_bounds", "_law_every", "_law_closure_here", "_law_can", "_law_least", "_law_asked_here", "_law_shown", "_law_bound", "_law_k", "_law_term"]) (sc := defScope s_law) (by decide +kernel)) (fun _ _ _ _ _ => (dg_name 12 (okAtW (by decide)) sc_law.nd rfl (by first | exact Or.inl rfl | exact Or.inr rfl))) (fun _ _ _ _ _ => dts_nil) (fun _ _ _ _ _ => (de_callG G__law_pop hr (by omega) (by rfl) (da_cons (de_var 1) (da_cons (de_var 2) da_nil)))))
    (dss_cons (ds_set 4 sc_law.nd rfl (by first | exact Or.inl rfl | exact Or.inr rfl) (de_callG G__law_drawn hr (by omega) (by rfl) (da_cons (de_var 1) (da_cons (de_var 3) (da_cons (de_callG G__law_draw hr (by omega) (by rfl) (da_cons (de_var 1) (da_cons de_int da_nil))) da_nil)))))
    (dss_cons (ds_set 5 sc_law.nd rfl (by first | exact Or.inl rfl | exact Or.inr rfl) (de_op od_add (de_var 3) (de_lst (da_cons de_str (da_cons de_str da_nil)))))
    (dss_cons (ds_set 6 sc_law.nd rfl (by first | exact Or.inl rfl | exact Or.inr rfl) (de_callG G__law_closure hr (by omega) (by rfl) (da_cons (de_var 4) (da_cons (de_var 5) da_nil))))
    (dss_cons (ds_set 7 sc_law.nd rfl (by first | exact Or.inl rfl | exact Or.inr rfl) (de_callB (xd_all rfl) (by rfl) B.n_all (by decide +kernel) (da_cons (de_lc (own := [("_law_term", 13)]) (by rfl) sc_law.nd (di_seq (de_var 5)) (blkOk_by (own := [("_law_term", 13)]) (N := ["_law_script", "_law_d", "_law_odd", "_law_terms_here", "_law_bounds", "_law_every", "_law_closure_here", "_law_can", "_law_least", "_law_asked_here", "_law_shown", "_law_bound", "_law_k", "_law_term"]) (sc := defScope s_law) (by decide +kernel)) (fun _ _ _ _ _ => (dg_name 13 (okAtW (by decide)) sc_law.nd rfl (by first | exact Or.inl rfl | exact Or.inr rfl))) (fun _ _ _ _ _ => dts_nil) (fun _ _ _ _ _ => (de_cmpR od_ge (de_ix hu (de_var 6) (de_tup (da_cons (de_var 13) (da_cons (de_var 13) da_nil))) (fun _ _ => rfl)) de_int (by rfl)))) da_nil)))
    (dss_cons (ds_set 8 sc_law.nd rfl (by first | exact Or.inl rfl | exact Or.inr rfl) (de_callG G__law_least_worths hr (by omega) (by rfl) (da_cons (de_var 4) da_nil)))
    (dss_cons (ds_setLc 9 (own := [("_law_k", 12)]) (by rfl) sc_law.nd rfl rfl (sw_true rfl rfl rfl (by decide +kernel)) (di_range1 (by rfl) B.n_range (da_cons de_int da_nil)) (blkOk_by (own := [("_law_k", 12)]) (N := ["_law_script", "_law_d", "_law_odd", "_law_terms_here", "_law_bounds", "_law_every", "_law_closure_here", "_law_can", "_law_least", "_law_asked_here", "_law_shown", "_law_bound", "_law_k", "_law_term"]) (sc := defScope s_law) (by decide +kernel)) (fun _ _ _ _ _ => (dg_name 12 (okAtW (by decide)) sc_law.nd rfl (by first | exact Or.inl rfl | exact Or.inr rfl))) (fun _ _ _ _ _ => dts_nil) (fun _ _ _ _ _ => (de_callG G__law_asked hr (by omega) (by rfl) (da_cons (de_var 1) (da_cons (de_var 5) (da_cons (de_var 6) (da_cons (de_var 7) da_nil)))))))
    (dss_cons (ds_set 10 sc_law.nd rfl (by first | exact Or.inl rfl | exact Or.inr rfl) (de_callB (xd_repr hu5 hr.g) (by rfl) B.n_repr (by decide +kernel) (da_cons (de_callG G_follows hr (by omega) (by rfl) (da_cons (de_var 4) (da_cons (de_ix hu (de_var 9) de_int (fun _ _ => rfl)) da_nil))) da_nil)))
    (dss_cons (ds_for PassesOwn.never (by rfl) (di_seq (de_var 9)) (dg_name 11 okAt0 sc_law.nd rfl (by first | exact Or.inl rfl | exact Or.inr rfl)) (dss_one (ds_if (dt_w (dw_or (dt_not (dt_tru (de_var 7))) (dw_or1 (dt_cmpR od_le (de_ix hu (de_var 6) (de_tup (da_cons (de_ix hu (de_var 11) de_int (fun _ _ => rfl)) (da_cons (de_ix hu (de_var 11) de_int (fun _ _ => rfl)) da_nil))) (fun _ _ => rfl)) (de_ix hu (de_var 11) de_int (fun _ _ => rfl)) (by rfl))))) (dss_one (ds_if (dt_not (dt_tru (de_callG G__law_follows hr (by omega) (by rfl) (da_cons (de_var 4) (da_cons (de_var 11) (da_cons (de_var 8) da_nil)))))) (dss_one (ds_ret de_bl)) dss_nil)) (dss_one (ds_if (dt_not (dt_tru (de_callG G__law_breaks_by hr (by omega) (by rfl) (da_cons (de_var 4) (da_cons (de_var 11) da_nil))))) (dss_one (ds_ret de_bl)) dss_nil)))))
    (dss_cons (ds_for PassesOwn.never (by rfl) (di_seq (de_slice (de_var 4) do_none (do_some de_int))) (dg_name 11 okAt0 sc_law.nd rfl (by first | exact Or.inl rfl | exact Or.inr rfl)) (dss_one (ds_if (dt_not (dt_tru (de_callG G__law_follows hr (by omega) (by rfl) (da_cons (de_var 4) (da_cons (de_var 11) (da_cons (de_var 8) da_nil)))))) (dss_one (ds_ret de_bl)) dss_nil)))
    (dss_one (ds_ret (de_cmpR (od_eq hu) (de_callB (xd_repr hu5 hr.g) (by rfl) B.n_repr (by decide +kernel) (da_cons (de_callG G_follows hr (by omega) (by rfl) (da_cons (de_var 4) (da_cons (de_ix hu (de_var 9) de_int (fun _ _ => rfl)) da_nil))) da_nil)) (de_var 10) (by rfl))))))))))))))))
theorem fn_law {sp : P1} {sp__law_begin : P1} {sp__law_draw : P1} {sp__law_pop : P1} {sp__law_drawn : P1} {sp__law_closure : P1} {sp__law_least_worths : P1} {sp__law_asked : P1} {sp_follows : P1} {sp__law_follows : P1} {sp__law_breaks_by : P1} {f : Addr} {fd : FuncData} (F : Fun K "law" "law" s_law f fd) (B : Blt mg) (G__law_begin : Good P w K mg base 1 "_law_begin" ["_law_script"] sp__law_begin) (G__law_draw : Good P w K mg base 1 "_law_draw" ["_law_d", "_law_many"] sp__law_draw) (G__law_pop : Good P w K mg base 2 "_law_pop" ["_law_d", "_law_row"] sp__law_pop) (G__law_drawn : Good P w K mg base 3 "_law_drawn" ["_law_d", "_law_terms_here", "_law_mood"] sp__law_drawn) (G__law_closure : Good P w K mg base 1 "_law_closure" ["_law_bounds", "_law_terms_here"] sp__law_closure) (G__law_least_worths : Good P w K mg base 3 "_law_least_worths" ["_law_bounds"] sp__law_least_worths) (G__law_asked : Good P w K mg base 3 "_law_asked" ["_law_d", "_law_terms_here", "_law_closure_here", "_law_can"] sp__law_asked) (G_follows : Good P w K mg base 3 "follows" ["bounds", "bound"] sp_follows) (G__law_follows : Good P w K mg base 4 "_law_follows" ["_law_bounds", "_law_bound", "_law_least"] sp__law_follows) (G__law_breaks_by : Good P w K mg base 4 "_law_breaks_by" ["_law_bounds", "_law_bound"] sp__law_breaks_by) (len : ∀ ds h Q, sp ds h Q → ds.length = 1) (sat : ∀ ds h Q, sp ds h Q → rd_law sp__law_begin sp__law_draw sp__law_pop sp__law_drawn sp__law_closure sp__law_least_worths sp__law_asked sp_follows sp__law_follows sp__law_breaks_by (endN Q) (startD 14 ds) h) : FnG P w K mg base 5 f fd ["_law_script"] (lowP ⟨K, w⟩ sp) :=
  df_ok F sc_law len fun cdv A outer s H E hr => ⟨_, body_law B G__law_begin G__law_draw G__law_pop G__law_drawn G__law_closure G__law_least_worths G__law_asked G_follows G__law_follows G__law_breaks_by f cdv A outer s H E hr, sat⟩
end
end DL
namespace DL
open PySem PySem.Spec PyProof.Rows L2
local macro_rules | `(tactic| walk_at "ev") => `(tactic| try simp only [e_seq, e_next, e_brk, e_cnt, e_drop, e_ret, e_retN, e_ifS, e_asg, e_gN, e_gSb, e_gTp, e_gCn, e_gNl, e_var, e_varK, e_nth0, e_nthS, e_put0, e_putS, e_c, e_op, e_un, e_call, e_nil, e_cons, e_tup, e_lst, e_test, e_asB, e_tru, e_andT, e_orT, e_notT, e_andV, e_orV, e_notV, e_if, e_aug, e_augS, e_sl, e_part, e_partK, e_noPart, e_bm0, e_bm, e_join, e_yes, e_wipe0, e_wipeS, e_lc, e_for, v_add, v_addS, v_addT, v_iadd, v_sub, v_mul, v_fdiv, v_mod, v_pow, v_shl, v_shr, v_neg, v_lt, v_le, v_gt, v_ge, v_eqI, v_neI, v_eqS, v_neS, v_inS, v_ninS, v_inT, v_ninT, v_inR, v_ninR, v_inSeq, v_seqO, v_seqR, v_seqT, v_seqL, v_ixR, v_ixT, v_ixL, v_ixS, v_atK, v_atSK, v_get, v_getL, v_getK, v_set, v_setL, v_setK, v_on1, v_on2, v_lenR, v_lenT, v_lenL, v_lenS, v_seqK, v_tuple, v_list, v_abs, v_intI, v_intB, v_okL, v_isLst, v_app, v_lstK, v_slS, v_slT, v_join, v_is, v_isnot, v_max, v_min, v_iSeq, v_srcT, v_srcL, v_srcS, v_srcR, v_srcO, v_iRg1, v_rg1, v_truN, v_truB, v_truI, v_truS, v_truR, v_truT, v_truRol, v_truL, v_inRol, v_ninRol, v_inO, v_inOd, v_inDic, v_ixO, v_ixOd, v_ixSeq, v_ixDic, v_dgetK, v_ixStr, v_getO, v_getOd, v_setO, v_setOd, v_setDic, v_lenO, v_lenOd, e_dic0, e_disp, e_pairs0, e_pairsS, e_chain, v_bits, v_iRg3, v_rg3, v_iRg2, v_rg2, v_iEn, v_enT, v_enR, v_enO, v_iZp, v_zpT, v_zpR, v_zpO, v_repr, v_strI, v_strS, v_addR, v_and, v_slR, v_slL, v_ltS, v_srtT, v_srtR, v_srtO, v_srtD, v_revR, v_revT, v_isB, v_iZs, v_zsT, v_eqIS, v_neIS, v_eqB, v_neB])
theorem ixN5_1 : ixN 5 1 = some 1 := by decide
theorem ixN5_2 : ixN 5 2 = some 2 := by decide
theorem ixN5_3 : ixN 5 3 = some 3 := by decide
theorem CPow_a : CPow 10 18 := by unfold CPow; decide
theorem CPow_b : CPow 1 6000 := by unfold CPow; decide
theorem pow6000 : (0:Int) < 1 * 2 ^ Int.toNat 6000 := by rw [Int.one_mul]; exact Int.pow_pos (by decide)
theorem len__law_draw : ∀ ds h Q, sp__law_draw ds h Q → ds.length = 2 := fun ds h Q ⟨a, c, cs, many, e, _⟩ => by rw [e]; rfl
section
variable {Q : KD} {h0 : MH} {a c : Addr} {cs : List Int} {many : Int}
/-- what the draw's end wants -/
def DrFin (Q : KD) (h0 : MH) (a c : Addr) (many : Int) : Prop := ∀ (x p acc r : Int), 0 ≤ p → Lh Q (.int (x % many)) (up h0 a (.lst [.ref c, .int p, .int acc, .int r, .int 3]))
theorem draw_5 (hm : 0 < many) (q : DrFin Q h0 a c many) {x y : Option D} {size p acc r : Int} (hp : 0 ≤ p) : rd__law_draw_5 (endN Q) [some (.ref a), some (.int many), x, some (.int size), y] (up h0 a (.lst [.ref c, .int p, .int acc, .int r, .int 3])) := by
  unfold rd__law_draw_5 rd__law_draw_6
  walk_at "ev"
  simp only [up_same, up_up, v_ixO, v_ixO, v_ixSeq, atI_1, atI_3, v_atK, v_mul, v_add, v_mod, v_intI, v_setO, v_setL, List.length_cons, List.length_nil, Nat.reduceAdd, ixN5_3, v_setK, List.set_cons_succ, List.set_cons_zero, v_fdiv]
  refine ⟨mulOk_r (by decide), by decide, mulOk_r (by decide), mulOk_r (by decide), by decide, divOk_16, hm, q _ _ _ _ hp⟩
theorem draw_4 (hm : 0 < many) (hm2 : many < 2 ^ 64) (q : DrFin Q h0 a c many) {x y : Option D} {size p acc r : Int} (hp : 0 ≤ p) : rd__law_draw_4 (endN Q) [some (.ref a), some (.int many), x, some (.int size), y] (up h0 a (.lst [.ref c, .int p, .int acc, .int r, .int 3])) := by
  unfold rd__law_draw_4
  walk_at "ev"
  refine ⟨CPow_a, mulOk_l (by decide), ?_⟩
  split
  · refine ⟨divOk_2, CPow_b, pow6000, divOk_of hm hm2, ?_⟩
    simp only [up_same, up_up, v_ixO, v_setO, v_setL, List.length_cons, List.length_nil, Nat.reduceAdd, ixN5_2, v_setK, List.set_cons_succ, List.set_cons_zero]
    exact ⟨hm, q _ _ _ _ hp⟩
  · exact draw_5 hm q hp
theorem draw_3 (hm : 0 < many) (hm2 : many < 2 ^ 64) (q : DrFin Q h0 a c many) {x y : Option D} {size p acc r : Int} (hp : 0 ≤ p) (ha : h0 a = some (.lst [.ref c, .int p, .int acc, .int r, .int 3])) : rd__law_draw_3 (endN Q) [some (.ref a), some (.int many), x, some (.int size), y] h0 := by
  unfold rd__law_draw_3
  walk_at "ev"
  simp only [ha, v_getO, v_getL, atI_1, v_getK, v_iadd, v_setO, v_setL, List.length_cons, List.length_nil, Nat.reduceAdd, ixN5_1, v_setK, List.set_cons_succ, List.set_cons_zero]
  exact ⟨by decide, draw_4 hm hm2 q (by omega)⟩
end
theorem sat__law_draw : ∀ ds h Q, sp__law_draw ds h Q → rd__law_draw (endN Q) (startD 5 ds) h := by
  rintro ds h Q ⟨a, c, cs, many, rfl, hm, hm2, d, q⟩
  obtain ⟨⟨o, ha, p, acc, r, hp, rfl⟩, hc⟩ := id d
  have dv := divOk_of hm hm2
  have fin : DrFin Q h a c many := fun x p' acc' r' hp' =>
    lh_of (q _ _ (Int.emod_nonneg _ (by omega)) (Int.emod_lt_of_pos _ hm) ⟨p', acc', r', hp', rfl⟩)
  show rd__law_draw (endN Q) [some (.ref a), some (.int many), none, none, none] h
  unfold rd__law_draw
  walk_at "ev"
  simp only [ha, atI_2, v_ixO, v_ixO, v_ixSeq, v_atK, v_gt, e_asB, decide_eq_true_eq]
  split
  · walk_at "ev"
    simp only [ha, v_setO, v_setL, List.length_cons, List.length_nil, Nat.reduceAdd, ixN5_2, v_setK, List.set_cons_succ, List.set_cons_zero, dv, hm, true_and]
    exact fin _ _ _ _ hp
  · unfold rd__law_draw_1 rd__law_draw_2
    walk_at "ev"
    simp only [ha, hc, atI_z, atI_1, v_ixO, v_ixO, v_ixSeq, v_atK, v_lenR, v_lenO, v_lt, e_asB, decide_eq_true_eq, List.length_map]
    split
    · rename_i hlt
      obtain ⟨j, rfl⟩ := Int.eq_ofNat_of_zero_le hp
      have hj : j < cs.length := by omega
      simp only [ha, hc, atI_z, atI_1, v_ixO, v_ixO, v_ixSeq, v_atK, v_ixR, atI_of rfl (show (cs.map D.int)[j]? = some (.int cs[j]) by rw [List.getElem?_map, List.getElem?_eq_getElem hj]; rfl), v_abs, v_mul, v_lt, v_intB, v_add]
      exact ⟨mulOk_l (by decide), draw_3 hm hm2 fin hp ha⟩
    · exact draw_3 hm hm2 fin hp ha
end DL
namespace DL
open PySem PySem.Spec PyProof.Rows L2
local macro_rules | `(tactic| walk_at "ev") => `(tactic| try simp only [e_seq, e_next, e_brk, e_cnt, e_drop, e_ret, e_retN, e_ifS, e_asg, e_gN, e_gSb, e_gTp, e_gCn, e_gNl, e_var, e_varK, e_nth0, e_nthS, e_put0, e_putS, e_c, e_op, e_un, e_call, e_nil, e_cons, e_tup, e_lst, e_test, e_asB, e_tru, e_andT, e_orT, e_notT, e_andV, e_orV, e_notV, e_if, e_aug, e_augS, e_sl, e_part, e_partK, e_noPart, e_bm0, e_bm, e_join, e_yes, e_wipe0, e_wipeS, e_lc, e_for, v_add, v_addS, v_addT, v_iadd, v_sub, v_mul, v_fdiv, v_mod, v_pow, v_shl, v_shr, v_neg, v_lt, v_le, v_gt, v_ge, v_eqI, v_neI, v_eqS, v_neS, v_inS, v_ninS, v_inT, v_ninT, v_inR, v_ninR, v_inSeq, v_seqO, v_seqR, v_seqT, v_seqL, v_ixR, v_ixT, v_ixL, v_ixS, v_atK, v_atSK, v_get, v_getL, v_getK, v_set, v_setL, v_setK, v_on1, v_on2, v_lenR, v_lenT, v_lenL, v_lenS, v_seqK, v_tuple, v_list, v_abs, v_intI, v_intB, v_okL, v_isLst, v_app, v_lstK, v_slS, v_slT, v_join, v_is, v_isnot, v_max, v_min, v_iSeq, v_srcT, v_srcL, v_srcS, v_srcR, v_srcO, v_iRg1, v_rg1, v_truN, v_truB, v_truI, v_truS, v_truR, v_truT, v_truRol, v_truL, v_inRol, v_ninRol, v_inO, v_inOd, v_inDic, v_ixO, v_ixOd, v_ixSeq, v_ixDic, v_dgetK, v_ixStr, v_getO, v_getOd, v_setO, v_setOd, v_setDic, v_lenO, v_lenOd, e_dic0, e_disp, e_pairs0, e_pairsS, e_chain, v_bits, v_iRg3, v_rg3, v_iRg2, v_rg2, v_iEn, v_enT, v_enR, v_enO, v_iZp, v_zpT, v_zpR, v_zpO, v_repr, v_strI, v_strS, v_addR, v_and, v_slR, v_slL, v_ltS, v_srtT, v_srtR, v_srtO, v_srtD, v_revR, v_revT, v_isB, v_iZs, v_zsT, v_eqIS, v_neIS, v_eqB, v_neB])
theorem len__law_begin : ∀ ds h Q, sp__law_begin ds h Q → ds.length = 1 := fun ds h Q ⟨cs, e, _⟩ => by rw [e]; rfl
theorem sat__law_begin : ∀ ds h Q, sp__law_begin ds h Q → rd__law_begin (endN Q) (startD 2 ds) h := by
  rintro ds h Q ⟨cs, rfl, hl, q⟩
  show rd__law_begin (endN Q) [some (.rol (cs.map D.int)), none] h
  unfold rd__law_begin
  walk_at "ev"
  refine ⟨by rw [List.length_map]; exact Nat.le_trans hl (by decide), fun i acc hh => hh = h ∧ acc = (cs.take i).map D.int, ⟨h, le.refl, rfl, rfl⟩, fun _ _ _ _ => trivial, ?_, ?_⟩
  · rintro i x acc hh hx ⟨rfl, rfl⟩
    rw [List.getElem?_map] at hx
    obtain ⟨n, hn, rfl⟩ := Option.map_eq_some_iff.mp hx
    walk_at "ev"
    rw [if_pos trivial]
    refine ⟨hh, le.refl, rfl, ?_⟩
    obtain ⟨hlt, e⟩ := List.getElem?_eq_some_iff.mp hn
    rw [List.take_succ_eq_append_getElem hlt, List.map_append, e]; rfl
  · rintro acc hh ⟨rfl, rfl⟩ p np
    walk_at "ev"
    refine ⟨by show 5 ≤ sizeLine; decide, fun a na => ?_⟩
    rw [List.length_map, List.take_length]
    have npa : a ≠ p := fun z => by rw [z, up_same] at na; cases na
    exact lh_of (q a p _ (by rw [up_ne npa] at na; exact na) np npa ⟨0, 0, 7, by decide, rfl⟩)
end DL
namespace DL
open PySem PySem.Spec PyProof.Rows L2
local macro_rules | `(tactic| walk_at "ev") => `(tactic| try simp only [e_seq, e_next, e_brk, e_cnt, e_drop, e_ret, e_retN, e_ifS, e_asg, e_gN, e_gSb, e_gTp, e_gCn, e_gNl, e_var, e_varK, e_nth0, e_nthS, e_put0, e_putS, e_c, e_op, e_un, e_call, e_nil, e_cons, e_tup, e_lst, e_test, e_asB, e_tru, e_andT, e_orT, e_notT, e_andV, e_orV, e_notV, e_if, e_aug, e_augS, e_sl, e_part, e_partK, e_noPart, e_bm0, e_bm, e_join, e_yes, e_wipe0, e_wipeS, e_lc, e_for, v_add, v_addS, v_addT, v_iadd, v_sub, v_mul, v_fdiv, v_mod, v_pow, v_shl, v_shr, v_neg, v_lt, v_le, v_gt, v_ge, v_eqI, v_neI, v_eqS, v_neS, v_inS, v_ninS, v_inT, v_ninT, v_inR, v_ninR, v_inSeq, v_seqO, v_seqR, v_seqT, v_seqL, v_ixR, v_ixT, v_ixL, v_ixS, v_atK, v_atSK, v_get, v_getL, v_getK, v_set, v_setL, v_setK, v_on1, v_on2, v_lenR, v_lenT, v_lenL, v_lenS, v_seqK, v_tuple, v_list, v_abs, v_intI, v_intB, v_okL, v_isLst, v_app, v_lstK, v_slS, v_slT, v_join, v_is, v_isnot, v_max, v_min, v_iSeq, v_srcT, v_srcL, v_srcS, v_srcR, v_srcO, v_iRg1, v_rg1, v_truN, v_truB, v_truI, v_truS, v_truR, v_truT, v_truRol, v_truL, v_inRol, v_ninRol, v_inO, v_inOd, v_inDic, v_ixO, v_ixOd, v_ixSeq, v_ixDic, v_dgetK, v_ixStr, v_getO, v_getOd, v_setO, v_setOd, v_setDic, v_lenO, v_lenOd, e_dic0, e_disp, e_pairs0, e_pairsS, e_chain, v_bits, v_iRg3, v_rg3, v_iRg2, v_rg2, v_iEn, v_enT, v_enR, v_enO, v_iZp, v_zpT, v_zpR, v_zpO, v_repr, v_strI, v_strS, v_addR, v_and, v_slR, v_slL, v_ltS, v_srtT, v_srtR, v_srtO, v_srtD, v_revR, v_revT, v_isB, v_iZs, v_zsT, v_eqIS, v_neIS, v_eqB, v_neB])
theorem len__law_pick : ∀ ds h Q, sp__law_pick ds h Q → ds.length = 2 := fun ds h Q ⟨a, c, cs, row, xs, e, _⟩ => by rw [e]; rfl
theorem sat__law_pick : ∀ ds h Q, sp__law_pick ds h Q → rd__law_pick sp__law_draw (endN Q) (startD 2 ds) h := by
  rintro ds h Q ⟨a, c, cs, row, xs, rfl, d, hr, hne, hx, hl, q⟩
  show rd__law_pick sp__law_draw (endN Q) [some (.ref a), some row] h
  unfold rd__law_pick
  walk_at "ev"
  refine len_row hr ?_
  have hp : 0 < xs.length := List.length_pos_iff.mpr hx
  refine ⟨a, c, cs, _, rfl, by omega, by omega, d, fun r o h0 h1 k => ?_⟩
  obtain ⟨j, rfl⟩ := Int.eq_ofNat_of_zero_le h0
  have hj : j < xs.length := by omega
  have hr' : rowOf (up h a o) row = some xs := by
    cases row <;> try exact hr
    case ref l =>
      have : l ≠ a := fun z => hne (by rw [z])
      show seqO (up h a o l) = some xs
      rw [up_ne this]; exact hr
  exact ix_row hr' (List.getElem?_eq_getElem hj) (lh_of (q _ o (List.getElem_mem hj) k))
end DL
namespace DL
open PySem PySem.Spec PyProof.Rows L2
local macro_rules | `(tactic| walk_at "ev") => `(tactic| try simp only [e_seq, e_next, e_brk, e_cnt, e_drop, e_ret, e_retN, e_ifS, e_asg, e_gN, e_gSb, e_gTp, e_gCn, e_gNl, e_var, e_varK, e_nth0, e_nthS, e_put0, e_putS, e_c, e_op, e_un, e_call, e_nil, e_cons, e_tup, e_lst, e_test, e_asB, e_tru, e_andT, e_orT, e_notT, e_andV, e_orV, e_notV, e_if, e_aug, e_augS, e_sl, e_part, e_partK, e_noPart, e_bm0, e_bm, e_join, e_yes, e_wipe0, e_wipeS, e_lc, e_for, v_add, v_addS, v_addT, v_iadd, v_sub, v_mul, v_fdiv, v_mod, v_pow, v_shl, v_shr, v_neg, v_lt, v_le, v_gt, v_ge, v_eqI, v_neI, v_eqS, v_neS, v_inS, v_ninS, v_inT, v_ninT, v_inR, v_ninR, v_inSeq, v_seqO, v_seqR, v_seqT, v_seqL, v_ixR, v_ixT, v_ixL, v_ixS, v_atK, v_atSK, v_get, v_getL, v_getK, v_set, v_setL, v_setK, v_on1, v_on2, v_lenR, v_lenT, v_lenL, v_lenS, v_seqK, v_tuple, v_list, v_abs, v_intI, v_intB, v_okL, v_isLst, v_app, v_lstK, v_slS, v_slT, v_join, v_is, v_isnot, v_max, v_min, v_iSeq, v_srcT, v_srcL, v_srcS, v_srcR, v_srcO, v_iRg1, v_rg1, v_truN, v_truB, v_truI, v_truS, v_truR, v_truT, v_truRol, v_truL, v_inRol, v_ninRol, v_inO, v_inOd, v_inDic, v_ixO, v_ixOd, v_ixSeq, v_ixDic, v_dgetK, v_ixStr, v_getO, v_getOd, v_setO, v_setOd, v_setDic, v_lenO, v_lenOd, e_dic0, e_disp, e_pairs0, e_pairsS, e_chain, v_bits, v_iRg3, v_rg3, v_iRg2, v_rg2, v_iEn, v_enT, v_enR, v_enO, v_iZp, v_zpT, v_zpR, v_zpO, v_repr, v_strI, v_strS, v_addR, v_and, v_slR, v_slL, v_ltS, v_srtT, v_srtR, v_srtO, v_srtD, v_revR, v_revT, v_isB, v_iZs, v_zsT, v_eqIS, v_neIS, v_eqB, v_neB])
def sp__law_pop : P1 := fun ds h Q => ∃ a c cs l xs, ds = [.ref a, .ref l] ∧ Dr a c cs h ∧ h l = some (.lst xs) ∧ l ≠ a ∧ 0 < xs.length ∧ xs.length < 1000000 ∧ ∀ j o x, xs[j]? = some x → DrO c o → Q x (up (up h a o) l (.lst (xs.eraseIdx j)))
theorem len__law_pop : ∀ ds h Q, sp__law_pop ds h Q → ds.length = 2 := fun ds h Q ⟨_, _, _, _, _, e, _⟩ => by rw [e]; rfl
theorem sat__law_pop : ∀ ds h Q, sp__law_pop ds h Q → rd__law_pop sp__law_draw (endN Q) (startD 2 ds) h := by
  rintro ds h Q ⟨a, c, cs, l, xs, rfl, d, el, la, h0, h1, q⟩
  show rd__law_pop sp__law_draw (endN Q) [some (.ref a), some (.ref l)] h
  unfold rd__law_pop
  walk_at "ev"
  rw [el]
  walk_at "ev"
  refine ⟨trivial, a, c, cs, _, rfl, by omega, by omega, d, fun r o r0 r1 k => ?_⟩
  obtain ⟨j, rfl⟩ := Int.eq_ofNat_of_zero_le r0
  have hj : j < xs.length := by omega
  rw [v_pop, up_ne la, el]
  walk_at "ev"
  exact ⟨j, xs[j], ixN_of rfl hj, List.getElem?_eq_getElem hj, ⟨by omega, by omega⟩, lh_of (q j o _ (List.getElem?_eq_getElem hj) k)⟩
theorem Ext.put {h H : MH} {a l : Addr} {o x : MO} (E : Ext h a o H) (n : h l = none) (ne : l ≠ a) : Ext h a o (up H l x) := by
  refine ⟨fun b u e => ?_, by rw [up_ne ne.symm]; exact E.at_⟩
  by_cases z : b = l
  · subst z; rw [up_ne ne, n] at e; cases e
  · rw [up_ne z]; exact E.le_ b u e
theorem Ext.lh {h H : MH} {a : Addr} {o : MO} {Q : KD} {x : D} (E : Ext h a o H) (q : Q x (up h a o)) : Lh Q x H := lh_le E.le_ q
theorem LV.pop {h hh : MH} {a c l : Addr} {cs : List Int} {ws : List (Addr × MO)} {Q : KD} (L : LV h a c cs hh ws) (i : Nat) {xs : List D} (e : ws[i]? = some (l, .lst xs)) (h0 : 0 < xs.length) (hl : xs.length < 1000000) (q : ∀ j x h1, xs[j]? = some x → LV h a c cs h1 (ws.set i (l, .lst (xs.eraseIdx j))) → Q x h1) : sp__law_pop [.ref a, .ref l] hh Q :=
  ⟨a, c, cs, l, xs, rfl, L.dr, L.get i e, L.na (List.mem_of_getElem? e), h0, hl, fun j o x hx k => q j x _ hx ((L.drawn k).set i e _)⟩
end DL
namespace DL
namespace BF
variable {T : Type} [DecidableEq T]
/-- l is at most r and the gap -/
abbrev Bd (T : Type) := T × T × Int
structure St (T : Type) where
  w : T → Option Int
  fr : T → Option (Bd T)
  up : Option T
  time : Nat
  stamp : T → Nat
def fup {α : Type} (f : T → α) (x : T) (v : α) : T → α := fun y => if y = x then v else f y
theorem fup_same {α : Type} {f : T → α} {x : T} {v : α} : fup f x v x = v := by unfold fup; rw [if_pos rfl]
theorem fup_ne {α : Type} {f : T → α} {x y : T} {v : α} (h : y ≠ x) : fup f x v y = f y := by unfold fup; rw [if_neg h]
/-- whether r is to be raised -/
def less (y : Int) (g : Int) : Option Int → Bool
  | some x => decide (x < y - g)
  | none => true
def relax (s : St T) (b : Bd T) : St T := match s.w b.1 with
  | some y => if less y b.2.2 (s.w b.2.1) = true then ⟨fup s.w b.2.1 (some (y - b.2.2)), fup s.fr b.2.1 (some b), some b.2.1, s.time + 1, fup s.stamp b.2.1 (s.time + 1)⟩ else { s with time := s.time + 1 }
  | none => { s with time := s.time + 1 }
theorem relax_time (s : St T) (b : Bd T) : (relax s b).time = s.time + 1 := by
  unfold relax; split
  · split <;> rfl
  · rfl
structure Good (rows : List (Bd T)) (nodes : List T) (w0 : T → Option Int) (s : St T) : Prop where
  frA : ∀ r a b g, s.fr r = some (a, b, g) → b = r ∧ (a, b, g) ∈ rows ∧ 0 < s.stamp r ∧ ∃ x y, s.w r = some x ∧ s.w a = some y ∧ x ≤ y - g ∧ (s.stamp r ≤ s.stamp a → x < y - g) ∧ (rows.length < s.stamp r → s.stamp r ≤ s.stamp a + rows.length)
  frB : ∀ r, 0 < s.stamp r → ∃ b, s.fr r = some b
  st : ∀ r, s.stamp r ≤ s.time
  sat : ∀ p l r g, p < s.time → s.time ≤ p + rows.length → rows[p % rows.length]? = some (l, r, g) → s.stamp l ≤ p → ∀ y, s.w l = some y → ∃ x, s.w r = some x ∧ y - g ≤ x
  dom : ∀ r x, s.w r = some x → r ∈ nodes
  grow : ∀ r x, w0 r = some x → ∃ y, s.w r = some y ∧ x ≤ y
theorem good_start {rows : List (Bd T)} {nodes : List T} {w0 : T → Option Int} (h : ∀ r x, w0 r = some x → r ∈ nodes) : Good rows nodes w0 ⟨w0, fun _ => none, none, 0, fun _ => 0⟩ :=
  ⟨(fun _ _ _ _ e => nomatch e), fun _ h => absurd h (Nat.lt_irrefl 0), fun _ => Nat.le_refl 0, fun p _ _ _ h => absurd h (Nat.not_lt_zero p), h, fun r x e => ⟨x, e, Int.le_refl _⟩⟩
section
variable {rows : List (Bd T)} {nodes : List T} {w0 : T → Option Int} {s : St T}
theorem good_idle (G : Good rows nodes w0 s) {l r : T} {g : Int} (e : rows[s.time % rows.length]? = some (l, r, g)) (h : ∀ y, s.w l = some y → ∃ x, s.w r = some x ∧ y - g ≤ x) : Good rows nodes w0 { s with time := s.time + 1 } := by
  refine ⟨G.frA, G.frB, fun r => Nat.le_succ_of_le (G.st r), fun p l' r' g' hp hq ep hs y hy => ?_, G.dom, G.grow⟩
  by_cases z : p = s.time
  · subst z
    rw [e] at ep; cases ep
    exact h y hy
  · have hp : p < s.time + 1 := hp
    have hq : s.time + 1 ≤ p + rows.length := hq
    exact G.sat p l' r' g' (by omega) (by omega) ep hs y hy
theorem good_raise (G : Good rows nodes w0 s) (hn : ∀ l r g, (l, r, g) ∈ rows → l ∈ nodes ∧ r ∈ nodes) {l r : T} {g y : Int} (e : rows[s.time % rows.length]? = some (l, r, g)) (hy : s.w l = some y) (hl : less y g (s.w r) = true) :
    Good rows nodes w0 ⟨fup s.w r (some (y - g)), fup s.fr r (some (l, r, g)), some r, s.time + 1, fup s.stamp r (s.time + 1)⟩ := by
  have hmem : (l, r, g) ∈ rows := List.mem_of_getElem? e
  have old : ∀ x, s.w r = some x → x < y - g := fun x hx => by
    rw [hx] at hl; exact of_decide_eq_true hl
  refine ⟨fun r' a b g' hf => ?_, fun r' hs => ?_, fun r' => ?_, fun p l' r' g' hp hq ep hs y' hy' => ?_, fun r' x hx => ?_, fun r' x hx => ?_⟩
  · show b = r' ∧ (a, b, g') ∈ rows ∧ 0 < fup s.stamp r (s.time + 1) r' ∧ ∃ x y_1, fup s.w r (some (y - g)) r' = some x ∧ fup s.w r (some (y - g)) a = some y_1 ∧ x ≤ y_1 - g' ∧ (fup s.stamp r (s.time + 1) r' ≤ fup s.stamp r (s.time + 1) a → x < y_1 - g') ∧ (rows.length < fup s.stamp r (s.time + 1) r' → fup s.stamp r (s.time + 1) r' ≤ fup s.stamp r (s.time + 1) a + rows.length)
    have hf : fup s.fr r (some (l, r, g)) r' = some (a, b, g') := hf
    by_cases z : r' = r
    · subst z
      rw [fup_same] at hf
      cases hf
      rw [fup_same, fup_same]
      refine ⟨rfl, hmem, Nat.succ_pos _, y - g, ?_⟩
      by_cases z2 : l = r'
      · subst z2
        have hg := old y hy
        refine ⟨y - g, rfl, fup_same, by omega, fun _ => by omega, fun _ => by rw [fup_same]; omega⟩
      · refine ⟨y, rfl, by rw [fup_ne z2]; exact hy, Int.le_refl _, fun h => ?_, fun h => ?_⟩
        · rw [fup_ne z2] at h
          have := G.st l
          omega
        · rw [fup_ne z2]
          -- the same row was looked at one round ahead
          by_cases c : s.stamp l ≤ s.time - rows.length
          · exfalso
            have hm : 0 < rows.length := by
              cases rows with
              | nil => simp at hmem
              | cons _ _ => simp
            obtain ⟨x, hx, hle⟩ := G.sat (s.time - rows.length) l r' g (by omega) (by omega) (by
              have : (s.time - rows.length) % rows.length = s.time % rows.length := by
                rw [← Nat.mod_eq_sub_mod (by omega)]
              rw [this]; exact e) c y hy
            have := old x hx
            omega
          · omega
    · rw [fup_ne z] at hf
      obtain ⟨h1, h2, h3, x, y', hx, hy', h4, h5, h6⟩ := G.frA r' a b g' hf
      rw [fup_ne z, fup_ne z]
      refine ⟨h1, h2, h3, x, ?_⟩
      by_cases z2 : a = r
      · subst z2
        have := old y' hy'
        have hst := G.st r'
        refine ⟨y - g, hx, fup_same, by omega, fun _ => by omega, fun h => by rw [fup_same]; omega⟩
      · rw [fup_ne z2, fup_ne z2]
        exact ⟨y', hx, hy', h4, h5, h6⟩
  · show ∃ b, fup s.fr r (some (l, r, g)) r' = some b
    have hs : 0 < fup s.stamp r (s.time + 1) r' := hs
    by_cases z : r' = r
    · subst z; exact ⟨_, fup_same⟩
    · rw [fup_ne z] at hs ⊢
      exact G.frB r' hs
  · show fup s.stamp r (s.time + 1) r' ≤ s.time + 1
    by_cases z : r' = r
    · subst z; rw [fup_same]; exact Nat.le_refl _
    · rw [fup_ne z]; exact Nat.le_succ_of_le (G.st r')
  · show ∃ x, fup s.w r (some (y - g)) r' = some x ∧ y' - g' ≤ x
    have hp : p < s.time + 1 := hp
    have hq : s.time + 1 ≤ p + rows.length := hq
    have hs : fup s.stamp r (s.time + 1) l' ≤ p := hs
    have hy' : fup s.w r (some (y - g)) l' = some y' := hy'
    have nl : l' ≠ r := fun z => by rw [z, fup_same] at hs; omega
    rw [fup_ne nl] at hs hy'
    by_cases z : p = s.time
    · subst z
      rw [e] at ep; cases ep
      rw [hy] at hy'; cases hy'
      exact ⟨_, fup_same, Int.le_refl _⟩
    · obtain ⟨x, hx, hle⟩ := G.sat p l' r' g' (by omega) (by omega) ep hs y' hy'
      by_cases z2 : r' = r
      · subst z2
        have := old x hx
        exact ⟨_, fup_same, by omega⟩
      · exact ⟨x, by rw [fup_ne z2]; exact hx, hle⟩
  · have hx : fup s.w r (some (y - g)) r' = some x := hx
    by_cases z : r' = r
    · subst z; exact (hn _ _ _ hmem).2
    · rw [fup_ne z] at hx; exact G.dom r' x hx
  · show ∃ y', fup s.w r (some (y - g)) r' = some y' ∧ x ≤ y'
    obtain ⟨y', h1, h2⟩ := G.grow r' x hx
    by_cases z : r' = r
    · subst z
      have := old y' h1
      exact ⟨_, fup_same, by omega⟩
    · exact ⟨y', by rw [fup_ne z]; exact h1, h2⟩
theorem good_relax (G : Good rows nodes w0 s) (hn : ∀ l r g, (l, r, g) ∈ rows → l ∈ nodes ∧ r ∈ nodes) {b : Bd T} (e : rows[s.time % rows.length]? = some b) : Good rows nodes w0 (relax s b) := by
  obtain ⟨l, r, g⟩ := b
  unfold relax
  cases hy : s.w l with
  | none => simp only [hy]; exact good_idle G e fun y h => by rw [hy] at h; cases h
  | some y =>
    simp only [hy]
    split
    · rename_i hl; exact good_raise G hn e hy hl
    · rename_i hl
      refine good_idle G e fun y' h => ?_
      rw [hy] at h; cases h
      cases hx : s.w r with
      | none => rw [hx] at hl; exact absurd rfl hl
      | some x =>
        rw [hx] at hl
        refine ⟨x, rfl, ?_⟩
        have : ¬ x < y - g := fun z => hl (decide_eq_true z)
        omega
/-! rounds -/
def clear (s : St T) : St T := { s with up := none }
def pass (rows : List (Bd T)) (s : St T) : St T := rows.foldl relax (clear s)
theorem pass_at (G : Good rows nodes w0 s) (hn : ∀ l r g, (l, r, g) ∈ rows → l ∈ nodes ∧ r ∈ nodes) {k : Nat} (ht : s.time = k * rows.length) : ∀ j, j ≤ rows.length →
    Good rows nodes w0 ((rows.take j).foldl relax (clear s)) ∧ ((rows.take j).foldl relax (clear s)).time = k * rows.length + j ∧ (∀ r, ((rows.take j).foldl relax (clear s)).up = some r → k * rows.length < ((rows.take j).foldl relax (clear s)).stamp r) ∧
    (((rows.take j).foldl relax (clear s)).up = none → ((rows.take j).foldl relax (clear s)).w = s.w ∧ ∀ l r g, (l, r, g) ∈ rows.take j → ∀ y, s.w l = some y → ∃ x, s.w r = some x ∧ y - g ≤ x)
  | 0, _ => by
    rw [List.take_zero]
    exact ⟨⟨G.frA, G.frB, G.st, G.sat, G.dom, G.grow⟩, ht, (fun r h => nomatch h), fun _ => ⟨rfl, by simp⟩⟩
  | j + 1, hj => by
    obtain ⟨G', t', u', v'⟩ := pass_at G hn ht j (by omega)
    rw [List.take_succ_eq_append_getElem (by omega), List.foldl_append, List.foldl_cons, List.foldl_nil]
    generalize (rows.take j).foldl relax (clear s) = q at G' t' u' v'
    have e : rows[q.time % rows.length]? = some rows[j] := by
      rw [t', Nat.mul_add_mod_self_right, Nat.mod_eq_of_lt (by omega), List.getElem?_eq_getElem (by omega)]
    refine ⟨good_relax G' hn e, by rw [relax_time, t']; omega, fun r hr => ?_, fun hr => ?_⟩
    · generalize rows[j] = b at hr e
      obtain ⟨l, r', g⟩ := b
      unfold relax at hr ⊢
      cases hy : q.w l with
      | none => simp only [hy] at hr ⊢; exact u' r hr
      | some y =>
        simp only [hy] at hr ⊢
        split at hr
        · rename_i hl
          rw [if_pos hl]
          cases hr
          show _ < fup q.stamp r (q.time + 1) r
          rw [fup_same, t']; omega
        · rename_i hl
          rw [if_neg hl]
          exact u' r hr
    · have main : q.up = none ∧ (relax q rows[j]).w = q.w ∧ ∀ y, q.w rows[j].1 = some y → ∃ x, q.w rows[j].2.1 = some x ∧ y - rows[j].2.2 ≤ x := by
        generalize rows[j] = b at hr e
        obtain ⟨l, r', g⟩ := b
        unfold relax at hr ⊢
        cases hy : q.w l with
        | none => simp only [hy] at hr ⊢; exact ⟨hr, by trivial, (fun y h => nomatch h)⟩
        | some y =>
          simp only [hy] at hr ⊢
          split at hr
          · cases hr
          · rename_i hl
            rw [if_neg hl]
            refine ⟨hr, by trivial, fun y' h => ?_⟩
            cases h
            cases hx : q.w r' with
            | none => rw [hx] at hl; exact absurd rfl hl
            | some x =>
              rw [hx] at hl
              refine ⟨x, rfl, ?_⟩
              have : ¬ x < y - g := fun z => hl (decide_eq_true z)
              omega
      obtain ⟨m1, m2, m3⟩ := main
      obtain ⟨v1, v2⟩ := v' m1
      refine ⟨by rw [m2, v1], fun l r g hm y hy => ?_⟩
      rcases List.mem_append.mp hm with hm | hm
      · exact v2 l r g hm y hy
      · rw [← List.mem_singleton.mp hm] at m3
        rw [v1] at m3
        exact m3 y hy
theorem pass_ok (G : Good rows nodes w0 s) (hn : ∀ l r g, (l, r, g) ∈ rows → l ∈ nodes ∧ r ∈ nodes) {k : Nat} (ht : s.time = k * rows.length) :
    Good rows nodes w0 (pass rows s) ∧ (pass rows s).time = (k + 1) * rows.length ∧ (∀ r, (pass rows s).up = some r → k * rows.length < (pass rows s).stamp r) ∧
    ((pass rows s).up = none → (pass rows s).w = s.w ∧ ∀ l r g, (l, r, g) ∈ rows → ∀ y, s.w l = some y → ∃ x, s.w r = some x ∧ y - g ≤ x) := by
  have h := pass_at G hn ht rows.length (Nat.le_refl _)
  rw [List.take_length] at h
  obtain ⟨a, b, c, d⟩ := h
  exact ⟨a, by show (rows.foldl relax (clear s)).time = _; rw [b, Nat.succ_mul], c, d⟩
end
def start (w0 : T → Option Int) : St T := ⟨w0, fun _ => none, none, 0, fun _ => 0⟩
def passes (rows : List (Bd T)) (w0 : T → Option Int) : Nat → St T
  | 0 => start w0
  | k + 1 => pass rows (passes rows w0 k)
theorem passes_ok {rows : List (Bd T)} {nodes : List T} {w0 : T → Option Int} (h0 : ∀ r x, w0 r = some x → r ∈ nodes) (hn : ∀ l r g, (l, r, g) ∈ rows → l ∈ nodes ∧ r ∈ nodes) : ∀ k, Good rows nodes w0 (passes rows w0 k) ∧ (passes rows w0 k).time = k * rows.length
  | 0 => ⟨good_start h0, by rw [Nat.zero_mul]; rfl⟩
  | k + 1 => by
    obtain ⟨a, b⟩ := passes_ok h0 hn k
    obtain ⟨c, d, _, _⟩ := pass_ok a hn b
    exact ⟨c, d⟩
/-- the worths stay below any that keep the rows -/
theorem relax_below {s : St T} {b : Bd T} {v : T → Int} (hb : v b.1 ≤ v b.2.1 + b.2.2) (h : ∀ r x, s.w r = some x → x ≤ v r) : ∀ r x, (relax s b).w r = some x → x ≤ v r := by
  obtain ⟨l, r', g⟩ := b
  intro r x hx
  unfold relax at hx
  cases hy : s.w l with
  | none => simp only [hy] at hx; exact h r x hx
  | some y =>
    simp only [hy] at hx
    split at hx
    · have hx : fup s.w r' (some (y - g)) r = some x := hx
      by_cases z : r = r'
      · subst z
        rw [fup_same] at hx; cases hx
        have := h l y hy
        have hb : v l ≤ v r + g := hb
        omega
      · rw [fup_ne z] at hx; exact h r x hx
    · exact h r x hx
theorem fold_below {v : T → Int} : ∀ {rows : List (Bd T)} {s : St T}, (∀ b ∈ rows, v b.1 ≤ v b.2.1 + b.2.2) → (∀ r x, s.w r = some x → x ≤ v r) → ∀ r x, (rows.foldl relax s).w r = some x → x ≤ v r
  | [], _, _, h => h
  | b :: rows, s, hb, h => fold_below (rows := rows) (s := relax s b) (fun c hc => hb c (by simp [hc])) (relax_below (hb b (by simp)) h)
theorem passes_below {v : T → Int} {rows : List (Bd T)} {w0 : T → Option Int} (hb : ∀ b ∈ rows, v b.1 ≤ v b.2.1 + b.2.2) (h : ∀ r x, w0 r = some x → x ≤ v r) : ∀ k r x, (passes rows w0 k).w r = some x → x ≤ v r
  | 0 => h
  | k + 1 => fold_below (s := clear (passes rows w0 k)) hb (passes_below hb h k)
/-! rings -/
theorem pigeon : ∀ (L : List T) (f : Nat → T), (∀ i, i ≤ L.length → f i ∈ L) → ∃ i j, i < j ∧ j ≤ L.length ∧ f i = f j
  | [], f, h => by have := h 0 (Nat.le_refl _); simp at this
  | a :: L, f, h => by
    by_cases c : ∃ i j, i < j ∧ j ≤ (a :: L).length ∧ f i = f j
    · exact c
    · exfalso
      have ne : ∀ i j, i < j → j ≤ L.length + 1 → f i ≠ f j := fun i j h1 h2 e => c ⟨i, j, h1, by rw [List.length_cons]; exact h2, e⟩
      -- the place of a
      have ex : ∃ i0, i0 ≤ L.length + 1 ∧ ∀ i, i ≤ L.length + 1 → i ≠ i0 → f i ≠ a := by
        by_cases q : ∃ i0, i0 ≤ L.length + 1 ∧ f i0 = a
        · obtain ⟨i0, h1, h2⟩ := q
          refine ⟨i0, h1, fun i hi hne e => ?_⟩
          rcases Nat.lt_or_gt_of_ne hne with z | z
          · exact ne i i0 z h1 (e.trans h2.symm)
          · exact ne i0 i z hi (h2.trans e.symm)
        · exact ⟨0, Nat.zero_le _, fun i hi _ e => q ⟨i, hi, e⟩⟩
      obtain ⟨i0, h1, h2⟩ := ex
      obtain ⟨i, j, hij, hj, e⟩ := pigeon L (fun i => if i < i0 then f i else f (i + 1)) fun i hi => by
        have key : ∀ k, k ≤ L.length + 1 → k ≠ i0 → f k ∈ L := fun k hk hne => by
          have := h k (by rw [List.length_cons]; exact hk)
          rcases List.mem_cons.mp this with z | z
          · exact absurd z (h2 k hk hne)
          · exact z
        show (if i < i0 then f i else f (i + 1)) ∈ L
        split
        · exact key i (by omega) (by omega)
        · exact key (i + 1) (by omega) (by omega)
      have e : (if i < i0 then f i else f (i + 1)) = if j < i0 then f j else f (j + 1) := e
      split at e
      · split at e
        · exact ne i j hij (by omega) e
        · exact ne i (j + 1) (by omega) (by omega) e
      · split at e
        · omega
        · exact ne (i + 1) (j + 1) (by omega) (by omega) e
def back (fr : T → Option (Bd T)) (x : T) : T := match fr x with
  | some b => b.1
  | none => x
def bk (fr : T → Option (Bd T)) (x : T) : Nat → T
  | 0 => x
  | i + 1 => back fr (bk fr x i)
theorem bk_add {fr : T → Option (Bd T)} {x : T} : ∀ i j, bk fr x (i + j) = bk fr (bk fr x i) j
  | i, 0 => rfl
  | i, j + 1 => by show back fr (bk fr x (i + j)) = back fr (bk fr (bk fr x i) j); rw [bk_add i j]
/-- the ring met from x, back -/
def ringGo (fr : T → Option (Bd T)) (t0 : T) : Nat → T → List (Bd T)
  | 0, _ => []
  | f + 1, x => match fr x with
    | none => []
    | some b => b :: (if b.1 = t0 then [] else ringGo fr t0 f b.1)
/-- each bound's first is the next one's second; the last's first is t0 -/
def Chain (t0 : T) : T → List (Bd T) → Prop
  | _, [] => False
  | x, [b] => b.2.1 = x ∧ b.1 = t0
  | x, b :: c :: r => b.2.1 = x ∧ Chain t0 b.1 (c :: r)
theorem chain_cons {t0 x : T} {b : Bd T} {r : List (Bd T)} (e : b.2.1 = x) (h : Chain t0 b.1 r) : Chain t0 x (b :: r) := by
  cases r with
  | nil => exact h.elim
  | cons c r => exact ⟨e, h⟩
section
variable {rows : List (Bd T)} {nodes : List T} {w0 : T → Option Int} {s : St T}
theorem stamps (G : Good rows nodes w0 s) {x0 : T} {N : Nat} (hx : N * rows.length < s.stamp x0) : ∀ i, i ≤ N → (N - i) * rows.length < s.stamp (bk s.fr x0 i)
  | 0, _ => hx
  | i + 1, hi => by
    have ih := stamps G hx i (by omega)
    have e : N - i = (N - (i + 1)) + 1 := by omega
    rw [e, Nat.succ_mul] at ih
    obtain ⟨⟨a, b, g⟩, hb⟩ := G.frB (bk s.fr x0 i) (by omega)
    obtain ⟨_, _, _, x, y, _, _, _, _, h6⟩ := G.frA _ a b g hb
    have := h6 (by omega)
    show _ < s.stamp (back s.fr (bk s.fr x0 i))
    unfold back; rw [hb]
    show _ < s.stamp a
    omega
theorem node_of (G : Good rows nodes w0 s) {x : T} (h : 0 < s.stamp x) : x ∈ nodes := by
  obtain ⟨⟨a, b, g⟩, hb⟩ := G.frB x h
  obtain ⟨_, _, _, y, _, hw, _⟩ := G.frA x a b g hb
  exact G.dom x y hw
/-- the ring's length -/
theorem ring_len (G : Good rows nodes w0 s) {x0 : T} (hx : nodes.length * rows.length < s.stamp x0) : ∃ k, 0 < k ∧ k ≤ nodes.length ∧ bk s.fr x0 (nodes.length + k) = bk s.fr x0 nodes.length ∧ ∀ n, 0 < s.stamp (bk s.fr x0 n) := by
  have st := stamps G hx
  obtain ⟨i, j, hij, hj, e⟩ := pigeon nodes (bk s.fr x0) fun i hi => node_of G (Nat.lt_of_le_of_lt (Nat.zero_le _) (st i hi))
  have per : ∀ t, bk s.fr x0 (j + t) = bk s.fr x0 (i + t) := fun t => by rw [bk_add, bk_add, e]
  refine ⟨j - i, by omega, by omega, ?_, ?_⟩
  · have := per (nodes.length - i)
    rw [show j + (nodes.length - i) = nodes.length + (j - i) by omega, show i + (nodes.length - i) = nodes.length by omega] at this
    exact this
  · intro n
    induction n using Nat.strongRecOn with
    | _ n ih =>
      by_cases h : n ≤ nodes.length
      · exact Nat.lt_of_le_of_lt (Nat.zero_le _) (st n h)
      · have := per (n - j)
        rw [show j + (n - j) = n by omega] at this
        rw [this]
        exact ih _ (by omega)
/-- what is known of each bound on the way back -/
theorem edge (G : Good rows nodes w0 s) {x : T} (h : 0 < s.stamp x) : ∃ g u v, s.fr x = some (back s.fr x, x, g) ∧ (back s.fr x, x, g) ∈ rows ∧ s.w x = some u ∧ s.w (back s.fr x) = some v ∧ u ≤ v - g ∧ (s.stamp x ≤ s.stamp (back s.fr x) → u < v - g) := by
  obtain ⟨⟨a, b, g⟩, hb⟩ := G.frB x h
  obtain ⟨e1, e2, _, u, v, h1, h2, h3, h4, _⟩ := G.frA x a b g hb
  subst e1
  have eb : back s.fr b = a := by unfold back; rw [hb]
  rw [eb]
  exact ⟨g, u, v, hb, e2, h1, h2, h3, h4⟩
/-- down the ring: sums -/
theorem ring_run (G : Good rows nodes w0 s) {t0 : T} (hp : ∀ n, 0 < s.stamp (bk s.fr t0 n)) {k : Nat} (hk : bk s.fr t0 k = t0) (least : ∀ j, 0 < j → j < k → bk s.fr t0 j ≠ t0) : ∀ (n i f : Nat), i + (n + 1) = k → n < f →
    ∃ u v, s.w (bk s.fr t0 i) = some u ∧ s.w t0 = some v ∧ (∀ b ∈ ringGo s.fr t0 f (bk s.fr t0 i), b ∈ rows) ∧ Chain t0 (bk s.fr t0 i) (ringGo s.fr t0 f (bk s.fr t0 i)) ∧
      ((ringGo s.fr t0 f (bk s.fr t0 i)).map (·.2.2)).sum ≤ v - u ∧ (s.stamp (bk s.fr t0 i) ≤ s.stamp t0 → ((ringGo s.fr t0 f (bk s.fr t0 i)).map (·.2.2)).sum < v - u)
  | n, i, 0, _, hf => absurd hf (Nat.not_lt_zero _)
  | 0, i, f + 1, hi, _ => by
    obtain ⟨g, u, v, h1, h2, h3, h4, h5, h6⟩ := edge G (hp i)
    have e : back s.fr (bk s.fr t0 i) = t0 := by
      have : bk s.fr t0 (i + 1) = t0 := by rw [show i + 1 = k by omega]; exact hk
      exact this
    rw [e] at h1 h2 h4 h6
    rw [ringGo, h1]
    simp only [if_true]
    refine ⟨u, v, h3, h4, fun b hb => by rw [List.mem_singleton.mp hb]; exact h2, ⟨rfl, rfl⟩, ?_, fun hs => ?_⟩
    · simp; omega
    · have := h6 hs
      simp; omega
  | n + 1, i, f + 1, hi, hf => by
    obtain ⟨g, u, v, h1, h2, h3, h4, h5, h6⟩ := edge G (hp i)
    have e : back s.fr (bk s.fr t0 i) = bk s.fr t0 (i + 1) := rfl
    have ne : bk s.fr t0 (i + 1) ≠ t0 := least (i + 1) (by omega) (by omega)
    obtain ⟨u2, v2, a1, a2, a3, a4, a5, a6⟩ := ring_run G hp hk least n (i + 1) f (by omega) (by omega)
    rw [e] at h1 h2 h4 h6
    rw [h4] at a1; cases a1
    rw [ringGo, h1]
    simp only [if_neg ne]
    refine ⟨u, v2, h3, a2, fun b hb => ?_, chain_cons rfl a4, ?_, fun hs => ?_⟩
    · rcases List.mem_cons.mp hb with rfl | hb
      · exact h2
      · exact a3 b hb
    · rw [List.map_cons, List.sum_cons]
      show g + _ ≤ _
      omega
    · rw [List.map_cons, List.sum_cons]
      show g + _ < _
      by_cases c : s.stamp (bk s.fr t0 i) ≤ s.stamp (bk s.fr t0 (i + 1))
      · have := h6 c
        omega
      · have := a6 (by omega)
        omega
/-- a ring that shows that no worths keep the rows -/
structure RingOk (rows : List (Bd T)) (ring : List (Bd T)) : Prop where
  mem : ∀ b ∈ ring, b ∈ rows
  sum : (ring.map (·.2.2)).sum < 0
  ch : ∃ t0, Chain t0 t0 ring
theorem least_of {P : Nat → Prop} : ∀ n, P n → ∃ k, k ≤ n ∧ P k ∧ ∀ j, j < k → ¬ P j := by
  intro n
  induction n using Nat.strongRecOn with
  | _ n ih =>
    intro h
    by_cases c : ∃ j, j < n ∧ P j
    · obtain ⟨j, h1, h2⟩ := c
      obtain ⟨k, a, b, d⟩ := ih j h1 h2
      exact ⟨k, by omega, b, d⟩
    · exact ⟨n, Nat.le_refl _, h, fun j hj q => c ⟨j, hj, q⟩⟩
theorem ring_ok (G : Good rows nodes w0 s) {x0 : T} (hx : nodes.length * rows.length < s.stamp x0) : (∀ n, 0 < s.stamp (bk s.fr x0 n)) ∧ RingOk rows (ringGo s.fr (bk s.fr x0 nodes.length) nodes.length (bk s.fr x0 nodes.length)) ∧
    ∃ k, 0 < k ∧ k ≤ nodes.length ∧ bk s.fr (bk s.fr x0 nodes.length) k = bk s.fr x0 nodes.length ∧ ∀ j, 0 < j → j < k → bk s.fr (bk s.fr x0 nodes.length) j ≠ bk s.fr x0 nodes.length := by
  obtain ⟨k1, h1, h2, h3, h4⟩ := ring_len G hx
  rw [bk_add] at h3
  obtain ⟨k, a, ⟨b1, b2⟩, c⟩ := least_of (P := fun k => 0 < k ∧ bk s.fr (bk s.fr x0 nodes.length) k = bk s.fr x0 nodes.length) k1 ⟨h1, h3⟩
  have least : ∀ j, 0 < j → j < k → bk s.fr (bk s.fr x0 nodes.length) j ≠ bk s.fr x0 nodes.length := fun j hj hjk e => c j hjk ⟨hj, e⟩
  refine ⟨h4, ?_, k, b1, by omega, b2, least⟩
  obtain ⟨u, v, e1, e2, e3, e4, _, e6⟩ := ring_run G (t0 := bk s.fr x0 nodes.length) (fun n => by rw [← bk_add]; exact h4 _) b2 least (k - 1) 0 nodes.length (by omega) (by omega)
  have e1 : s.w (bk s.fr x0 nodes.length) = some u := e1
  rw [e1] at e2; cases e2
  have := e6 (Nat.le_refl _)
  exact ⟨e3, by have h : ((ringGo s.fr (bk s.fr x0 nodes.length) nodes.length (bk s.fr x0 nodes.length)).map (·.2.2)).sum < u - u := this; omega, _, e4⟩
end
/-- with such a ring no worths keep the rows -/
theorem chain_sum {v : T → Int} {t0 : T} : ∀ {ring : List (Bd T)} {x : T}, Chain t0 x ring → (∀ b ∈ ring, v b.1 ≤ v b.2.1 + b.2.2) → v t0 - v x ≤ (ring.map (·.2.2)).sum
  | [b], x, ⟨h1, h2⟩, h => by
    have := h b (by simp)
    rw [h1, h2] at this
    simp; omega
  | b :: c :: r, x, ⟨h1, h2⟩, h => by
    have i := chain_sum h2 fun d hd => h d (by simp [hd])
    have := h b (by simp)
    rw [h1] at this
    rw [List.map_cons, List.sum_cons]
    show _ ≤ b.2.2 + _
    omega
theorem RingOk.no {rows ring : List (Bd T)} (R : RingOk rows ring) (v : T → Int) : ¬ ∀ b ∈ rows, v b.1 ≤ v b.2.1 + b.2.2 := fun h => by
  obtain ⟨t0, c⟩ := R.ch
  have := chain_sum c fun b hb => h b (R.mem b hb)
  have := R.sum
  omega
end BF
end DL
namespace DL
open PySem PySem.Spec PyProof.Rows L2 BF
/-! ### texts in order -/
def leT (a b : Str) : Bool := leK (.str a) (.str b)
theorem leT_eq (a b : Str) : leT a b = PySem.W.sortLe (listOrd itemOrd) false (fun x : Str => PySem.W.keyToks (pd (.str x))) a b := rfl
theorem leT_tot : PySem.W.TotalLe leT := PySem.W.sortLe_total (listOrd itemOrd) false (fun x : Str => PySem.W.keyToks (pd (.str x)))
theorem leT_anti {a b : Str} (h1 : leT a b = true) (h2 : leT b a = true) : a = b := by
  have k : PySem.W.keyToks (pd (.str a)) = PySem.W.keyToks (pd (.str b)) := by
    refine (listOrd itemOrd).total _ _ ?_ ?_
    · have : (!(listOrd itemOrd).blt (PySem.W.keyToks (pd (.str a))) (PySem.W.keyToks (pd (.str b)))) = true := h2
      simpa using this
    · have : (!(listOrd itemOrd).blt (PySem.W.keyToks (pd (.str b))) (PySem.W.keyToks (pd (.str a)))) = true := h1
      simpa using this
  simp only [pd, PySem.W.keyToks] at k
  have k : a.cps.toList = b.cps.toList := by simpa using k
  have : a.cps = b.cps := Array.ext' k
  cases a; cases b; simp_all
/-- a row in order is one -/
theorem sorted_one {α : Type} {le : α → α → Bool} (anti : ∀ a b, le a b = true → le b a = true → a = b) : ∀ {l m : List α}, l.Perm m → l.Pairwise (fun a b => le a b = true) → m.Pairwise (fun a b => le a b = true) → l = m
  | [], m, p, _, _ => (List.Perm.eq_nil p.symm).symm ▸ rfl
  | a :: l, [], p, _, _ => by have := p.length_eq; simp at this
  | a :: l, b :: m, p, h1, h2 => by
    rw [List.pairwise_cons] at h1 h2
    have e : a = b := by
      have ha : a ∈ b :: m := p.mem_iff.mp (by simp)
      have hb : b ∈ a :: l := p.mem_iff.mpr (by simp)
      rcases List.mem_cons.mp ha with z | z
      · exact z
      · rcases List.mem_cons.mp hb with y | y
        · exact y.symm
        · exact anti _ _ (h1.1 b y) (h2.1 a z)
    subst e
    rw [sorted_one anti (List.Perm.cons_inv p) h1.2 h2.2]
def sortS (l : List Str) : List Str := l.mergeSort leT
theorem sortS_perm (l : List Str) : (sortS l).Perm l := List.mergeSort_perm _ _
theorem sortS_pw (l : List Str) : (sortS l).Pairwise (fun a b => leT a b = true) := PySem.W.sort_pairwise leT_tot l
/-- what sorted gives -/
theorem sorted_strs {l : List Str} {ys : List D} (p : ys.Perm (l.map D.str)) (s : ys.Pairwise (fun a b => leK a b = true)) : ys = (sortS l).map D.str := by
  have mem : ∀ y ∈ ys, ∃ x, y = D.str x := fun y hy => by
    obtain ⟨x, _, e⟩ := List.mem_map.mp (p.mem_iff.mp hy)
    exact ⟨x, e.symm⟩
  have ex : ∀ {zs : List D}, (∀ y ∈ zs, ∃ x, y = D.str x) → ∃ xs : List Str, zs = xs.map D.str := by
    intro zs
    induction zs with
    | nil => exact fun _ => ⟨[], rfl⟩
    | cons y r ih =>
      intro h
      obtain ⟨x, rfl⟩ := h y (by simp)
      obtain ⟨xs, rfl⟩ := ih fun z hz => h z (by simp [hz])
      exact ⟨x :: xs, rfl⟩
  obtain ⟨xs, rfl⟩ := ex mem
  have p2 : xs.Perm l := by
    have := p.map (fun d => match d with | .str x => x | _ => Str.ofString "")
    rw [List.map_map, List.map_map] at this
    simpa [Function.comp_def] using this
  rw [List.pairwise_map] at s
  rw [sorted_one (le := leT) (fun a b => leT_anti) (p2.trans (sortS_perm l).symm) s (sortS_pw l)]
/-! ### terms -/
def Zs : Str := Str.ofString "0"
abbrev B1 := Bd Str
/-- the first of each -/
def dd : List Str → List Str
  | l => l.foldl (fun acc x => if x ∈ acc then acc else acc ++ [x]) []
theorem dd_fold : ∀ (l acc : List Str), acc.Nodup → (l.foldl (fun acc x => if x ∈ acc then acc else acc ++ [x]) acc).Nodup ∧ ∀ y, y ∈ l.foldl (fun acc x => if x ∈ acc then acc else acc ++ [x]) acc ↔ y ∈ acc ∨ y ∈ l
  | [], acc, h => ⟨h, fun y => by simp⟩
  | x :: l, acc, h => by
    rw [List.foldl_cons]
    by_cases c : x ∈ acc
    · rw [if_pos c]
      obtain ⟨a, b⟩ := dd_fold l acc h
      refine ⟨a, fun y => ?_⟩
      rw [b y, List.mem_cons]
      constructor
      · rintro (z | z)
        · exact .inl z
        · exact .inr (.inr z)
      · rintro (z | rfl | z)
        · exact .inl z
        · exact .inl c
        · exact .inr z
    · rw [if_neg c]
      obtain ⟨a, b⟩ := dd_fold l (acc ++ [x]) (by
        rw [List.nodup_append]
        exact ⟨h, by simp, fun a ha b hb => by rw [List.mem_singleton.mp hb]; intro z; rw [z] at ha; exact c ha⟩)
      refine ⟨a, fun y => ?_⟩
      rw [b y, List.mem_cons, List.mem_append, List.mem_singleton, or_assoc]
theorem dd_nodup (l : List Str) : (dd l).Nodup := (dd_fold l [] List.nodup_nil).1
theorem dd_mem {l : List Str} {y : Str} : y ∈ dd l ↔ y ∈ l := by unfold dd; rw [(dd_fold l [] List.nodup_nil).2 y]; simp
def endsF (B : List B1) : List Str := B.flatMap fun b => [b.1, b.2.1]
def termsF (B : List B1) : List Str := (sortS (dd (endsF B))).filter (fun x => decide (x ≠ Zs))
theorem terms_nodup (B : List B1) : (termsF B).Nodup := ((sortS_perm _).nodup_iff.mpr (dd_nodup _)).filter _
theorem terms_mem {B : List B1} {x : Str} : x ∈ termsF B ↔ x ≠ Zs ∧ ∃ b ∈ B, x = b.1 ∨ x = b.2.1 := by
  unfold termsF endsF
  rw [List.mem_filter, decide_eq_true_eq, (sortS_perm _).mem_iff, dd_mem, List.mem_flatMap]
  simp only [List.mem_cons, List.not_mem_nil, or_false]
  exact and_comm
theorem terms_pw (B : List B1) : (termsF B).Pairwise (fun a b => leT a b = true) := (sortS_pw _).filter _
theorem terms_len (B : List B1) : (termsF B).length ≤ 2 * B.length := by
  unfold termsF
  refine Nat.le_trans (List.length_filter_le _ _) ?_
  rw [(sortS_perm _).length_eq]
  have fl : ∀ (l acc : List Str), (l.foldl (fun acc x => if x ∈ acc then acc else acc ++ [x]) acc).length ≤ acc.length + l.length := by
    intro l
    induction l with
    | nil => intro acc; simp
    | cons x l ih =>
      intro acc
      rw [List.foldl_cons]
      refine Nat.le_trans (ih _) ?_
      split
      · simp
      · simp; omega
  refine Nat.le_trans (fl _ _) ?_
  unfold endsF
  rw [List.length_nil, Nat.zero_add, List.length_flatMap]
  induction B with
  | nil => simp
  | cons b r ih => simp at ih ⊢; omega
/-! ### rows -/
def rgs (ts : List Str) : List B1 := ts.flatMap fun t => [(Zs, t, 0), (t, Zs, 9999)]
def rowsF (B : List B1) (ts : List Str) : List B1 := B ++ rgs ts
theorem rgs_mem {ts : List Str} {b : B1} : b ∈ rgs ts ↔ ∃ t ∈ ts, b = (Zs, t, 0) ∨ b = (t, Zs, 9999) := by
  unfold rgs
  rw [List.mem_flatMap]
  simp only [List.mem_cons, List.not_mem_nil, or_false]
/-- worths that keep bounds -/
structure Sol (B : List B1) (s : Str → Int) : Prop where
  z : s Zs = 0
  lo : ∀ x, 0 ≤ s x
  hi : ∀ x, s x ≤ 9999
  b : ∀ b ∈ B, s b.1 ≤ s b.2.1 + b.2.2
theorem Sol.rows {B : List B1} {s : Str → Int} (S : Sol B s) (ts : List Str) : ∀ b ∈ rowsF B ts, s b.1 ≤ s b.2.1 + b.2.2 := by
  intro b hb
  rcases List.mem_append.mp hb with hb | hb
  · exact S.b b hb
  · obtain ⟨t, _, rfl | rfl⟩ := rgs_mem.mp hb
    · have := S.lo t; have := S.z; show s Zs ≤ s t + 0; omega
    · have := S.hi t; have := S.z; show s t ≤ s Zs + 9999; omega
/-- from rows to worths -/
def ext (nodes : List Str) (v : Str → Int) (x : Str) : Int := if x ∈ nodes then v x - v Zs else 0
theorem sol_of {B : List B1} {ts : List Str} {v : Str → Int} (hB : ∀ b ∈ B, b.1 ∈ Zs :: ts ∧ b.2.1 ∈ Zs :: ts) (h : ∀ b ∈ rowsF B ts, v b.1 ≤ v b.2.1 + b.2.2) : Sol B (ext (Zs :: ts) v) := by
  have z : ext (Zs :: ts) v Zs = 0 := by unfold ext; rw [if_pos (by simp)]; omega
  have rg : ∀ t ∈ ts, v Zs ≤ v t ∧ v t ≤ v Zs + 9999 := fun t ht =>
    ⟨by have := h (Zs, t, 0) (List.mem_append_right _ (rgs_mem.mpr ⟨t, ht, .inl rfl⟩)); simpa using this, by have := h (t, Zs, 9999) (List.mem_append_right _ (rgs_mem.mpr ⟨t, ht, .inr rfl⟩)); simpa using this⟩
  refine ⟨z, fun x => ?_, fun x => ?_, fun b hb => ?_⟩
  · unfold ext
    split
    · rename_i hx
      rcases List.mem_cons.mp hx with rfl | hx
      · omega
      · have := (rg x hx).1; omega
    · exact Int.le_refl _
  · unfold ext
    split
    · rename_i hx
      rcases List.mem_cons.mp hx with rfl | hx
      · omega
      · have := (rg x hx).2; omega
    · decide
  · unfold ext
    rw [if_pos (hB b hb).1, if_pos (hB b hb).2]
    have := h b (List.mem_append_left _ hb)
    omega
/-! ### settle -/
inductive Res where
  | least (w : Str → Option Int)
  | ring (r : List B1)
def w0 (x0 : Str) : Str → Option Int := fup (fun _ => none) x0 (some 0)
def ringAt (fr : Str → Option B1) (x : Str) (N : Nat) : List B1 := ringGo fr (bk fr x N) N (bk fr x N)
def settleGo (rows : List B1) (N : Nat) : Nat → Nat → Res
  | 0, k => .ring (ringAt (passes rows (w0 Zs) k).fr ((passes rows (w0 Zs) k).up.getD Zs) N)
  | m + 1, k => if (passes rows (w0 Zs) (k + 1)).up = none then .least (passes rows (w0 Zs) (k + 1)).w else settleGo rows N m (k + 1)
def settleF (B : List B1) : Res := settleGo (rowsF B (termsF B)) ((termsF B).length + 1) ((termsF B).length + 2) 0
section
variable {B : List B1} {ts : List Str}
theorem row_ends (hB : ∀ b ∈ B, b.1 ∈ Zs :: ts ∧ b.2.1 ∈ Zs :: ts) : ∀ l r g, (l, r, g) ∈ rowsF B ts → l ∈ Zs :: ts ∧ r ∈ Zs :: ts := by
  intro l r g h
  rcases List.mem_append.mp h with h | h
  · exact hB _ h
  · obtain ⟨t, ht, e | e⟩ := rgs_mem.mp h <;> cases e
    · exact ⟨by simp, by simp [ht]⟩
    · exact ⟨by simp [ht], by simp⟩
theorem w0_dom {x0 : Str} (h : x0 ∈ Zs :: ts) : ∀ r x, w0 x0 r = some x → r ∈ Zs :: ts := by
  intro r x e
  unfold w0 at e
  by_cases z : r = x0
  · rw [z]; exact h
  · rw [fup_ne z] at e; cases e
/-- a round without a raise: worths -/
theorem still {x0 : Str} (hB : ∀ b ∈ B, b.1 ∈ Zs :: ts ∧ b.2.1 ∈ Zs :: ts) (hx : x0 ∈ Zs :: ts) {k : Nat} (h : (passes (rowsF B ts) (w0 x0) (k + 1)).up = none) :
    ∃ v : Str → Int, (∀ x ∈ Zs :: ts, (passes (rowsF B ts) (w0 x0) (k + 1)).w x = some (v x)) ∧ (∀ b ∈ rowsF B ts, v b.1 ≤ v b.2.1 + b.2.2) ∧ v x0 = 0 ∧ ∀ s : Str → Int, (∀ b ∈ rowsF B ts, s b.1 ≤ s b.2.1 + b.2.2) → s x0 = 0 → ∀ x ∈ Zs :: ts, v x ≤ s x := by
  obtain ⟨G, t⟩ := passes_ok (w0_dom hx) (row_ends hB) k
  obtain ⟨_, _, _, d⟩ := pass_ok G (row_ends hB) t
  obtain ⟨d1, d2⟩ := d h
  have e : (passes (rowsF B ts) (w0 x0) (k + 1)).w = (passes (rowsF B ts) (w0 x0) k).w := d1
  obtain ⟨y0, hy0, hpos⟩ : ∃ y, (passes (rowsF B ts) (w0 x0) k).w x0 = some y ∧ (0 : Int) ≤ y := G.grow x0 0 fup_same
  have below := fun (s : Str → Int) (h1 : ∀ b ∈ rowsF B ts, s b.1 ≤ s b.2.1 + b.2.2) (h2 : s x0 = 0) => passes_below (w0 := w0 x0) h1 (fun r x e => by
    unfold w0 at e
    by_cases z : r = x0
    · subst z; rw [fup_same] at e; cases e; omega
    · rw [fup_ne z] at e; cases e) k
  rw [e]
  generalize (passes (rowsF B ts) (w0 x0) k).w = w at d2 hy0 below
  have wz : ∃ z, w Zs = some z := by
    rcases List.mem_cons.mp hx with rfl | hx
    · exact ⟨_, hy0⟩
    · obtain ⟨z, hz, _⟩ := d2 x0 Zs 9999 (List.mem_append_right _ (rgs_mem.mpr ⟨x0, hx, .inr rfl⟩)) y0 hy0
      exact ⟨z, hz⟩
  obtain ⟨z, hz⟩ := wz
  have all : ∀ x ∈ Zs :: ts, w x = some ((w x).getD 0) := fun x hx => by
    rcases List.mem_cons.mp hx with rfl | hx
    · rw [hz]; rfl
    · obtain ⟨u, hu, _⟩ := d2 Zs x 0 (List.mem_append_right _ (rgs_mem.mpr ⟨x, hx, .inl rfl⟩)) z hz
      rw [hu]; rfl
  have sat : ∀ b ∈ rowsF B ts, (w b.1).getD 0 ≤ (w b.2.1).getD 0 + b.2.2 := fun ⟨l, r, g⟩ hb => by
    obtain ⟨h1, h2⟩ := row_ends hB l r g hb
    obtain ⟨u, hu, hle⟩ := d2 l r g hb _ (all l h1)
    show (w l).getD 0 ≤ (w r).getD 0 + g
    rw [hu]
    show (w l).getD 0 ≤ u + g
    omega
  refine ⟨fun x => (w x).getD 0, all, sat, ?_, fun s h1 h2 x hx => below s h1 h2 x _ (all x hx)⟩
  have v0 : (w x0).getD 0 = y0 := by rw [hy0]; rfl
  have := below (fun x => (w x).getD 0 - y0) (fun b hb => by have := sat b hb; show (w b.1).getD 0 - y0 ≤ (w b.2.1).getD 0 - y0 + b.2.2; omega) (by show (w x0).getD 0 - y0 = 0; omega) x0 y0 hy0
  have : y0 ≤ (w x0).getD 0 - y0 := this
  show (w x0).getD 0 = 0
  omega
/-- a raise in the last round: a ring -/
theorem raised {x0 : Str} (hB : ∀ b ∈ B, b.1 ∈ Zs :: ts ∧ b.2.1 ∈ Zs :: ts) (hx : x0 ∈ Zs :: ts) {r : Str} (h : (passes (rowsF B ts) (w0 x0) (ts.length + 2)).up = some r) :
    RingOk (rowsF B ts) (ringAt (passes (rowsF B ts) (w0 x0) (ts.length + 2)).fr r (ts.length + 1)) ∧ (∀ n, ∃ b, (passes (rowsF B ts) (w0 x0) (ts.length + 2)).fr (bk (passes (rowsF B ts) (w0 x0) (ts.length + 2)).fr r n) = some b) ∧
    ∃ k, 0 < k ∧ k ≤ ts.length + 1 ∧ bk (passes (rowsF B ts) (w0 x0) (ts.length + 2)).fr (bk (passes (rowsF B ts) (w0 x0) (ts.length + 2)).fr r (ts.length + 1)) k = bk (passes (rowsF B ts) (w0 x0) (ts.length + 2)).fr r (ts.length + 1) ∧
      ∀ j, 0 < j → j < k → bk (passes (rowsF B ts) (w0 x0) (ts.length + 2)).fr (bk (passes (rowsF B ts) (w0 x0) (ts.length + 2)).fr r (ts.length + 1)) j ≠ bk (passes (rowsF B ts) (w0 x0) (ts.length + 2)).fr r (ts.length + 1) := by
  obtain ⟨G, t⟩ := passes_ok (w0_dom hx) (row_ends hB) (ts.length + 1)
  obtain ⟨G', _, u, _⟩ := pass_ok G (row_ends hB) t
  have hs := u r h
  obtain ⟨a, b, c⟩ := ring_ok G' (x0 := r) (by rw [List.length_cons]; exact hs)
  rw [List.length_cons] at b c
  exact ⟨b, fun n => G'.frB _ (a n), c⟩
theorem ends_ok (B : List B1) : ∀ b ∈ B, b.1 ∈ Zs :: termsF B ∧ b.2.1 ∈ Zs :: termsF B := by
  have : ∀ x, (∃ b ∈ B, x = b.1 ∨ x = b.2.1) → x ∈ Zs :: termsF B := fun x h => by
    by_cases z : x = Zs
    · rw [z]; simp
    · exact List.mem_cons_of_mem _ (terms_mem.mpr ⟨z, h⟩)
  exact fun b hb => ⟨this _ ⟨b, hb, .inl rfl⟩, this _ ⟨b, hb, .inr rfl⟩⟩
theorem go_spec (B : List B1) : ∀ m k, m + k = (termsF B).length + 2 → (m = 0 → ∃ r, (passes (rowsF B (termsF B)) (w0 Zs) k).up = some r) →
    (∃ w, settleGo (rowsF B (termsF B)) ((termsF B).length + 1) m k = .least w ∧ ∃ s, Sol B s ∧ (∀ x ∈ Zs :: termsF B, w x = some (s x)) ∧ ∀ s', Sol B s' → ∀ x, s x ≤ s' x) ∨
    (∃ r, settleGo (rowsF B (termsF B)) ((termsF B).length + 1) m k = .ring r ∧ RingOk (rowsF B (termsF B)) r)
  | 0, k, h, hu => by
    obtain ⟨r, hr⟩ := hu rfl
    have e : k = (termsF B).length + 2 := by omega
    subst e
    right
    refine ⟨_, rfl, ?_⟩
    rw [hr]
    exact (raised (ends_ok B) (by simp) hr).1
  | m + 1, k, h, _ => by
    rw [settleGo]
    by_cases c : (passes (rowsF B (termsF B)) (w0 Zs) (k + 1)).up = none
    · rw [if_pos c]
      left
      obtain ⟨v, h1, h2, h3, h4⟩ := still (ends_ok B) (x0 := Zs) (by simp) c
      refine ⟨_, rfl, ext (Zs :: termsF B) v, sol_of (ends_ok B) h2, fun x hx => ?_, fun s' S x => ?_⟩
      · rw [h1 x hx]; unfold ext; rw [if_pos hx, h3]; congr 1; omega
      · unfold ext
        split
        · rename_i hx
          have := h4 s' (S.rows _) S.z x hx
          omega
        · exact S.lo x
    · rw [if_neg c]
      refine go_spec B m (k + 1) (by omega) fun _ => ?_
      cases q : (passes (rowsF B (termsF B)) (w0 Zs) (k + 1)).up with
      | none => exact absurd q c
      | some r => exact ⟨r, rfl⟩
theorem settle_spec (B : List B1) :
    (∃ w, settleF B = .least w ∧ ∃ s, Sol B s ∧ (∀ x ∈ Zs :: termsF B, w x = some (s x)) ∧ ∀ s', Sol B s' → ∀ x, s x ≤ s' x) ∨
    (∃ r, settleF B = .ring r ∧ RingOk (rowsF B (termsF B)) r) := go_spec B _ 0 rfl fun h => absurd h (by omega)
theorem ring_no {ts : List Str} {r : List B1} (R : RingOk (rowsF B ts) r) (s : Str → Int) : ¬ Sol B s := fun S => R.no s (S.rows ts)
end
end DL
namespace DL
open PySem PySem.Spec PyProof.Rows L2 BF
/-! a set of texts in order is one row -/
theorem perm_nd {α : Type} [DecidableEq α] : ∀ {l m : List α}, l.Nodup → m.Nodup → (∀ x, x ∈ l ↔ x ∈ m) → l.Perm m
  | [], m, _, _, h => by
    have : m = [] := List.eq_nil_iff_forall_not_mem.mpr fun x hx => by have := (h x).mpr hx; simp at this
    rw [this]
  | a :: l, m, hl, hm, h => by
    rw [List.nodup_cons] at hl
    obtain ⟨s, t, rfl⟩ := List.append_of_mem ((h a).mp (by simp))
    have hm2 : (a :: (s ++ t)).Nodup := (List.perm_middle.nodup_iff).mp hm
    rw [List.nodup_cons] at hm2
    have ih : l.Perm (s ++ t) := perm_nd hl.2 hm2.2 fun x => by
      have := h x
      simp only [List.mem_cons, List.mem_append] at this ⊢
      constructor
      · intro hx
        rcases this.mp (.inr hx) with z | z | z
        · exact .inl z
        · subst z; exact absurd hx hl.1
        · exact .inr z
      · intro hx
        rcases this.mpr (by rcases hx with z | z; exact .inl z; exact .inr (.inr z)) with z | z
        · subst z; exact absurd (by simpa using hx) hm2.1
        · exact z
    exact (ih.cons a).trans List.perm_middle.symm
def ddZ (acc : List Str) (x : Str) : List Str := if x ≠ Zs ∧ x ∉ acc then acc ++ [x] else acc
theorem ddZ_fold : ∀ (l acc : List Str), acc.Nodup → (l.foldl ddZ acc).Nodup ∧ ∀ y, y ∈ l.foldl ddZ acc ↔ y ∈ acc ∨ (y ≠ Zs ∧ y ∈ l)
  | [], acc, h => ⟨h, fun y => by simp⟩
  | x :: l, acc, h => by
    rw [List.foldl_cons]
    unfold ddZ
    by_cases c : x ≠ Zs ∧ x ∉ acc
    · rw [if_pos c]
      obtain ⟨a, b⟩ := ddZ_fold l (acc ++ [x]) (by
        rw [List.nodup_append]
        exact ⟨h, by simp, fun a ha b hb => by rw [List.mem_singleton.mp hb]; intro z; rw [z] at ha; exact c.2 ha⟩)
      refine ⟨a, fun y => ?_⟩
      refine (b y).trans ?_
      rw [List.mem_append, List.mem_singleton, List.mem_cons]
      constructor
      · rintro ((z | rfl) | ⟨z1, z2⟩)
        · exact .inl z
        · exact .inr ⟨c.1, .inl rfl⟩
        · exact .inr ⟨z1, .inr z2⟩
      · rintro (z | ⟨z1, rfl | z2⟩)
        · exact .inl (.inl z)
        · exact .inl (.inr rfl)
        · exact .inr ⟨z1, z2⟩
    · rw [if_neg c]
      obtain ⟨a, b⟩ := ddZ_fold l acc h
      refine ⟨a, fun y => ?_⟩
      refine (b y).trans ?_
      rw [List.mem_cons]
      constructor
      · rintro (z | ⟨z1, z2⟩)
        · exact .inl z
        · exact .inr ⟨z1, .inr z2⟩
      · rintro (z | ⟨z1, rfl | z2⟩)
        · exact .inl z
        · by_cases q : y ∈ acc
          · exact .inl q
          · exact absurd ⟨z1, q⟩ c
        · exact .inr ⟨z1, z2⟩
theorem terms_ddZ (B : List B1) : sortS ((endsF B).foldl ddZ []) = termsF B := by
  obtain ⟨a, b⟩ := ddZ_fold (endsF B) [] List.nodup_nil
  refine sorted_one (le := leT) (fun a b => leT_anti) ((sortS_perm _).trans (perm_nd a (terms_nodup B) fun x => ?_)) (sortS_pw _) (terms_pw B)
  rw [b x, terms_mem]
  unfold endsF
  rw [List.mem_flatMap]
  simp
/-! worths that start at 0 everywhere -/
def w00 (ts : List Str) : Str → Option Int := fun x => if x ∈ Zs :: ts then some 0 else none
section
variable {B : List B1} {ts : List Str}
theorem w00_dom : ∀ r x, w00 ts r = some x → r ∈ Zs :: ts := by
  intro r x e
  unfold w00 at e
  by_cases h : r ∈ Zs :: ts
  · exact h
  · rw [if_neg h] at e; cases e
theorem w00_below {s : Str → Int} (S : Sol B s) : ∀ r x, w00 ts r = some x → x ≤ s r := by
  intro r x e
  unfold w00 at e
  split at e
  · cases e; exact S.lo r
  · cases e
theorem all00 (hB : ∀ b ∈ B, b.1 ∈ Zs :: ts ∧ b.2.1 ∈ Zs :: ts) (k : Nat) : ∀ x ∈ Zs :: ts, ∃ y, (passes (rowsF B ts) (w00 ts) k).w x = some y ∧ 0 ≤ y := by
  intro x hx
  obtain ⟨G, _⟩ := passes_ok w00_dom (row_ends hB) k
  exact G.grow x 0 (by unfold w00; rw [if_pos hx])
theorem over00 {k : Nat} {y : Int} (h : (passes (rowsF B ts) (w00 ts) k).w Zs = some y) (hy : 0 < y) : ¬ ∃ s, Sol B s := by
  rintro ⟨s, S⟩
  have := passes_below (S.rows ts) (w00_below S) k Zs y h
  have := S.z
  omega
theorem still00 (hB : ∀ b ∈ B, b.1 ∈ Zs :: ts ∧ b.2.1 ∈ Zs :: ts) {k : Nat} (h : (passes (rowsF B ts) (w00 ts) (k + 1)).up = none) {y : Int} (hz : (passes (rowsF B ts) (w00 ts) (k + 1)).w Zs = some y) (hy : ¬ 0 < y) :
    ∃ s, Sol B s ∧ (∀ x ∈ Zs :: ts, (passes (rowsF B ts) (w00 ts) (k + 1)).w x = some (s x)) ∧ ∀ s', Sol B s' → ∀ x, s x ≤ s' x := by
  obtain ⟨G, t⟩ := passes_ok (w0 := w00 ts) w00_dom (row_ends hB) k
  obtain ⟨_, _, _, d⟩ := pass_ok G (row_ends hB) t
  obtain ⟨d1, d2⟩ := d h
  have e : (passes (rowsF B ts) (w00 ts) (k + 1)).w = (passes (rowsF B ts) (w00 ts) k).w := d1
  have all := all00 hB k
  rw [e] at hz ⊢
  have below := fun (s : Str → Int) (S : Sol B s) => passes_below (w0 := w00 ts) (S.rows ts) (w00_below S) k
  generalize (passes (rowsF B ts) (w00 ts) k).w = w at d2 hz all below
  have val : ∀ x ∈ Zs :: ts, w x = some ((w x).getD 0) := fun x hx => by obtain ⟨y, hy, _⟩ := all x hx; rw [hy]; rfl
  have sat : ∀ b ∈ rowsF B ts, (w b.1).getD 0 ≤ (w b.2.1).getD 0 + b.2.2 := fun ⟨l, r, g⟩ hb => by
    obtain ⟨h1, h2⟩ := row_ends hB l r g hb
    obtain ⟨u, hu, hle⟩ := d2 l r g hb _ (val l h1)
    show (w l).getD 0 ≤ (w r).getD 0 + g
    rw [hu]
    show (w l).getD 0 ≤ u + g
    omega
  have z0 : (w Zs).getD 0 = 0 := by
    obtain ⟨y', hy', h0⟩ := all Zs (by simp)
    rw [hz] at hy'; cases hy'
    rw [hz]; show y = 0; omega
  refine ⟨ext (Zs :: ts) fun x => (w x).getD 0, sol_of (v := fun x => (w x).getD 0) hB sat, fun x hx => ?_, fun s' S x => ?_⟩
  · unfold ext
    rw [if_pos hx]
    show w x = some ((w x).getD 0 - (w Zs).getD 0)
    rw [z0, Int.sub_zero]
    exact val x hx
  · unfold ext
    split
    · rename_i hx
      have := below s' S x _ (val x hx)
      show (w x).getD 0 - (w Zs).getD 0 ≤ s' x
      rw [z0]; omega
    · exact S.lo x
theorem raised00 (hB : ∀ b ∈ B, b.1 ∈ Zs :: ts ∧ b.2.1 ∈ Zs :: ts) (h : (passes (rowsF B ts) (w00 ts) (ts.length + 2)).up ≠ none) : ¬ ∃ s, Sol B s := by
  rintro ⟨s, S⟩
  obtain ⟨G, t⟩ := passes_ok (w0 := w00 ts) w00_dom (row_ends hB) (ts.length + 1)
  obtain ⟨G', _, u, _⟩ := pass_ok G (row_ends hB) t
  cases c : (passes (rowsF B ts) (w00 ts) (ts.length + 2)).up with
  | none => exact h c
  | some r =>
    have hs := u r c
    obtain ⟨_, R, _⟩ := ring_ok G' (x0 := r) (by rw [List.length_cons]; exact hs)
    exact ring_no R s S
end
end DL
namespace DL
open PySem PySem.Spec PyProof.Rows L2 BF
/-! ### the tightest gap -/
structure Tight (B : List B1) (l r : Str) (m : Int) : Prop where
  all : ∀ s, Sol B s → s l - s r ≤ m
  ex : ∃ s, Sol B s ∧ s l - s r = m
def TightO (B : List B1) (l r : Str) : Option Int → Prop
  | none => ¬ ∃ s, Sol B s
  | some m => Tight B l r m
theorem tight_one {B : List B1} {l r : Str} : ∀ {x y : Option Int}, TightO B l r x → TightO B l r y → x = y
  | none, none, _, _ => rfl
  | none, some m, h, t => by obtain ⟨s, S, _⟩ := t.ex; exact absurd ⟨s, S⟩ h
  | some m, none, t, h => by obtain ⟨s, S, _⟩ := t.ex; exact absurd ⟨s, S⟩ h
  | some m, some n, a, b => by
    obtain ⟨s, S, e⟩ := a.ex
    obtain ⟨t, T, f⟩ := b.ex
    have h1 := b.all s S
    have h2 := a.all t T
    congr 1; omega
/-- from the worths that l gives -/
theorem tight_of {B : List B1} {ts : List Str} {l r : Str} {v : Str → Int} (hB : ∀ b ∈ B, b.1 ∈ Zs :: ts ∧ b.2.1 ∈ Zs :: ts) (hl : l ∈ Zs :: ts) (hr : r ∈ Zs :: ts) (h : ∀ b ∈ rowsF B ts, v b.1 ≤ v b.2.1 + b.2.2) (h0 : v l = 0)
    (least : ∀ s, Sol B s → v r ≤ s r - s l) : Tight B l r (- v r) := by
  refine ⟨fun s S => by have := least s S; omega, _, sol_of hB h, ?_⟩
  unfold ext
  rw [if_pos hl, if_pos hr]; omega
/-! ### all pairs -/
abbrev CF := Str × Str → Int
def mn (a b : Int) : Int := if b < a then b else a
theorem mn_le_l (a b : Int) : mn a b ≤ a := by unfold mn; split <;> omega
theorem mn_le_r (a b : Int) : mn a b ≤ b := by unfold mn; split <;> omega
theorem le_mn {x a b : Int} (h1 : x ≤ a) (h2 : x ≤ b) : x ≤ mn a b := by unfold mn; split <;> assumption
theorem mn_idem (a b : Int) : mn (mn a b) b = mn a b := by
  unfold mn
  by_cases h : b < a
  · simp [h]
  · simp [h]
theorem mn_cases (a b : Int) : mn a b = a ∨ mn a b = b := by unfold mn; split <;> simp
def stepC (m : Str) (c : CF) (l r : Str) : CF := fup c (l, r) (mn (c (l, r)) (c (l, m) + c (m, r)))
def rowC (ts : List Str) (m : Str) (c : CF) (l : Str) : CF := ts.foldl (fun c r => stepC m c l r) c
def phaseC (ts : List Str) (c : CF) (m : Str) : CF := ts.foldl (fun c l => rowC ts m c l) c
def closeC (ts : List Str) (c : CF) : CF := ts.foldl (fun c m => phaseC ts c m) c
theorem stepC_le (m : Str) (c : CF) (l r : Str) (p : Str × Str) : stepC m c l r p ≤ c p := by
  unfold stepC fup
  split
  · rename_i e; rw [e]; exact mn_le_l _ _
  · exact Int.le_refl _
theorem foldC_le {α : Type} (f : CF → α → CF) (h : ∀ c x p, f c x p ≤ c p) : ∀ (L : List α) (c : CF) (p : Str × Str), L.foldl f c p ≤ c p
  | [], c, p => Int.le_refl _
  | x :: L, c, p => Int.le_trans (foldC_le f h L (f c x) p) (h c x p)
theorem rowC_le (ts : List Str) (m : Str) (c : CF) (l : Str) (p : Str × Str) : rowC ts m c l p ≤ c p := foldC_le _ (fun c r p => stepC_le m c l r p) ts c p
theorem phaseC_le (ts : List Str) (c : CF) (m : Str) (p : Str × Str) : phaseC ts c m p ≤ c p := foldC_le _ (fun c l p => rowC_le ts m c l p) ts c p
theorem closeC_le (ts L : List Str) (c : CF) (p : Str × Str) : (L.foldl (fun c m => phaseC ts c m) c) p ≤ c p := foldC_le _ (fun c m p => phaseC_le ts c m p) L c p
/-- what is no less than the differences of worths stays so -/
def Above (s : Str → Int) (c : CF) : Prop := ∀ p : Str × Str, s p.1 - s p.2 ≤ c p
theorem above_step {s : Str → Int} {c : CF} (h : Above s c) (m l r : Str) : Above s (stepC m c l r) := fun p => by
  unfold stepC fup
  split
  · rename_i e; subst e
    have h1 := h (l, r); have h2 := h (l, m); have h3 := h (m, r)
    refine le_mn h1 ?_
    show s l - s r ≤ _
    have h2 : s l - s m ≤ c (l, m) := h2
    have h3 : s m - s r ≤ c (m, r) := h3
    omega
  · exact h p
theorem above_fold {s : Str → Int} {α : Type} (f : CF → α → CF) (h : ∀ c x, Above s c → Above s (f c x)) : ∀ (L : List α) (c : CF), Above s c → Above s (L.foldl f c)
  | [], c, a => a
  | x :: L, c, a => above_fold f h L (f c x) (h c x a)
theorem above_row {s : Str → Int} (ts : List Str) (m : Str) (c : CF) (l : Str) (a : Above s c) : Above s (rowC ts m c l) := above_fold _ (fun c r h => above_step h m l r) ts c a
theorem above_phase {s : Str → Int} (ts : List Str) (c : CF) (m : Str) (a : Above s c) : Above s (phaseC ts c m) := above_fold _ (fun c l h => above_row ts m c l h) ts c a
theorem above_close {s : Str → Int} (ts : List Str) (c : CF) (a : Above s c) : Above s (closeC ts c) := above_fold _ (fun c m h => above_phase ts c m h) ts c a
/-- one phase, when m's own is not below 0: as if all were done at once -/
structure Mid (f g : CF) (m : Str) (D : Str × Str → Prop) : Prop where
  col : ∀ i, g (i, m) = f (i, m)
  row : ∀ j, g (m, j) = f (m, j)
  or_ : ∀ p, g p = f p ∨ g p = mn (f p) (f (p.1, m) + f (m, p.2))
  done : ∀ p, D p → g p = mn (f p) (f (p.1, m) + f (m, p.2))
theorem mid_step {f g : CF} {m : Str} {D : Str × Str → Prop} (h0 : 0 ≤ f (m, m)) (M : Mid f g m D) (l r : Str) : Mid f (stepC m g l r) m fun p => D p ∨ p = (l, r) := by
  have val : stepC m g l r (l, r) = mn (f (l, r)) (f (l, m) + f (m, r)) := by
    unfold stepC; rw [fup_same, M.col l, M.row r]
    rcases M.or_ (l, r) with e | e
    · rw [e]
    · rw [e]
      show mn (mn (f (l, r)) (f (l, m) + f (m, r))) (f (l, m) + f (m, r)) = _
      exact mn_idem _ _
  have other : ∀ p, p ≠ (l, r) → stepC m g l r p = g p := fun p hp => by unfold stepC; exact fup_ne hp
  refine ⟨fun i => ?_, fun j => ?_, fun p => ?_, fun p hp => ?_⟩
  · by_cases e : (i, m) = (l, r)
    · cases e
      rw [val]
      unfold mn; split <;> omega
    · rw [other _ e]; exact M.col i
  · by_cases e : (m, j) = (l, r)
    · cases e
      rw [val]
      unfold mn; split <;> omega
    · rw [other _ e]; exact M.row j
  · by_cases e : p = (l, r)
    · subst e; exact .inr val
    · rw [other _ e]; exact M.or_ p
  · by_cases e : p = (l, r)
    · subst e; exact val
    · rw [other _ e]
      rcases hp with hp | hp
      · exact M.done p hp
      · exact absurd hp e
theorem mid_row {f : CF} {m : Str} (h0 : 0 ≤ f (m, m)) (l : Str) : ∀ (R : List Str) (g : CF) (D : Str × Str → Prop), Mid f g m D → Mid f (R.foldl (fun c r => stepC m c l r) g) m fun p => D p ∨ (p.1 = l ∧ p.2 ∈ R)
  | [], g, D, M => ⟨M.col, M.row, M.or_, fun p hp => by rcases hp with hp | ⟨_, hp⟩; exact M.done p hp; simp at hp⟩
  | r :: R, g, D, M => by
    have := mid_row h0 l R _ _ (mid_step h0 M l r)
    refine ⟨this.col, this.row, this.or_, fun p hp => this.done p ?_⟩
    rcases hp with hp | ⟨h1, h2⟩
    · exact .inl (.inl hp)
    · rcases List.mem_cons.mp h2 with h2 | h2
      · exact .inl (.inr (by cases p; simp_all))
      · exact .inr ⟨h1, h2⟩
theorem mid_all {f : CF} {m : Str} (h0 : 0 ≤ f (m, m)) (ts : List Str) : ∀ (L : List Str) (g : CF) (D : Str × Str → Prop), Mid f g m D → Mid f (L.foldl (fun c l => rowC ts m c l) g) m fun p => D p ∨ (p.1 ∈ L ∧ p.2 ∈ ts)
  | [], g, D, M => ⟨M.col, M.row, M.or_, fun p hp => by rcases hp with hp | ⟨hp, _⟩; exact M.done p hp; simp at hp⟩
  | l :: L, g, D, M => by
    have := mid_all h0 ts L _ _ (mid_row h0 l ts g D M)
    refine ⟨this.col, this.row, this.or_, fun p hp => this.done p ?_⟩
    rcases hp with hp | ⟨h1, h2⟩
    · exact .inl (.inl hp)
    · rcases List.mem_cons.mp h1 with h1 | h1
      · exact .inl (.inr ⟨h1, h2⟩)
      · exact .inr ⟨h1, h2⟩
theorem phase_eq {f : CF} {m : Str} (h0 : 0 ≤ f (m, m)) (ts : List Str) {i j : Str} (hi : i ∈ ts) (hj : j ∈ ts) : phaseC ts f m (i, j) = mn (f (i, j)) (f (i, m) + f (m, j)) := by
  have := mid_all h0 ts ts f (fun _ => False) ⟨fun _ => rfl, fun _ => rfl, fun _ => .inl rfl, fun _ h => h.elim⟩
  exact this.done (i, j) (.inr ⟨hi, hj⟩)
/-- the triangles over what is done -/
def Tri (ts M : List Str) (c : CF) : Prop := ∀ i j k, i ∈ ts → j ∈ ts → k ∈ M → k ∈ ts → c (i, j) ≤ c (i, k) + c (k, j)
theorem tri_phase {ts M : List Str} {f : CF} {m : Str} (hm : m ∈ ts) (h0 : 0 ≤ f (m, m)) (T : Tri ts M f) : Tri ts (M ++ [m]) (phaseC ts f m) := by
  intro i j k hi hj hk hkt
  rw [phase_eq h0 ts hi hj, phase_eq h0 ts hi hkt, phase_eq h0 ts hkt hj]
  have a1 := mn_le_l (f (i, j)) (f (i, m) + f (m, j))
  have a2 := mn_le_r (f (i, j)) (f (i, m) + f (m, j))
  rcases List.mem_append.mp hk with hk | hk
  · have t1 := T i j k hi hj hk hkt
    have t2 := T i m k hi hm hk hkt
    have t3 := T m j k hm hj hk hkt
    have t4 := T m m k hm hm hk hkt
    rcases mn_cases (f (i, k)) (f (i, m) + f (m, k)) with e1 | e1 <;> rcases mn_cases (f (k, j)) (f (k, m) + f (m, j)) with e2 | e2 <;> rw [e1, e2] <;> omega
  · rw [List.mem_singleton.mp hk]
    rcases mn_cases (f (i, m)) (f (i, m) + f (m, m)) with e1 | e1 <;> rcases mn_cases (f (m, j)) (f (m, m) + f (m, j)) with e2 | e2 <;> rw [e1, e2] <;> omega
theorem tri_close {ts : List Str} : ∀ (L M : List Str) (f : CF), (∀ m ∈ L, m ∈ ts) → (∀ t ∈ ts, 0 ≤ (L.foldl (fun c m => phaseC ts c m) f) (t, t)) → Tri ts M f → Tri ts (M ++ L) (L.foldl (fun c m => phaseC ts c m) f)
  | [], M, f, _, _, T => by rw [List.append_nil]; exact T
  | m :: L, M, f, hL, hd, T => by
    have hm := hL m (by simp)
    have h0 : 0 ≤ f (m, m) := Int.le_trans (hd m hm) (closeC_le ts (m :: L) f (m, m))
    have := tri_close L (M ++ [m]) (phaseC ts f m) (fun x hx => hL x (by simp [hx])) hd (tri_phase hm h0 T)
    rw [List.append_assoc] at this
    exact this
/-- what the closure starts with -/
structure Base (B : List B1) (ts : List Str) (c : CF) : Prop where
  self : ∀ t, t ∈ ts → c (t, t) ≤ 0
  lo : ∀ t, t ∈ ts → c (Zs, t) ≤ 0
  hi : ∀ t, t ∈ ts → c (t, Zs) ≤ 9999
  b : ∀ b ∈ B, c (b.1, b.2.1) ≤ b.2.2
  ab : ∀ s, Sol B s → Above s c
theorem close_tight {B : List B1} {ts : List Str} {c : CF} (hz : Zs ∈ ts) (hB : ∀ b ∈ B, b.1 ∈ ts ∧ b.2.1 ∈ ts) (C : Base B ts c) {l r : Str} (hl : l ∈ ts) (hr : r ∈ ts) :
    (¬ (∀ t ∈ ts, 0 ≤ closeC ts c (t, t)) → TightO B l r none) ∧ ((∀ t ∈ ts, 0 ≤ closeC ts c (t, t)) → TightO B l r (some (closeC ts c (l, r)))) := by
  refine ⟨fun h ⟨s, S⟩ => h fun t ht => ?_, fun h => ?_⟩
  · have := above_close ts c (C.ab s S) (t, t)
    have : s t - s t ≤ closeC ts c (t, t) := this
    omega
  · have T := tri_close ts [] c (fun _ h => h) h (fun _ _ _ _ _ h => by simp at h)
    rw [List.nil_append] at T
    have le := fun p => closeC_le ts ts c p
    have tri : ∀ i j k, i ∈ ts → j ∈ ts → k ∈ ts → closeC ts c (i, j) ≤ closeC ts c (i, k) + closeC ts c (k, j) := fun i j k hi hj hk => T i j k hi hj hk hk
    have ll : closeC ts c (l, l) = 0 := by
      have h1 := h l hl
      have h2 : closeC ts c (l, l) ≤ c (l, l) := le _
      have h3 := C.self l hl
      omega
    refine ⟨fun s S => above_close ts c (C.ab s S) (l, r), ?_⟩
    have rows : ∀ b ∈ rowsF B ts, - closeC ts c (l, b.1) ≤ - closeC ts c (l, b.2.1) + b.2.2 := by
      intro b hb
      rcases List.mem_append.mp hb with hb | hb
      · have := tri l b.2.1 b.1 hl (hB b hb).2 (hB b hb).1
        have h2 : closeC ts c (b.1, b.2.1) ≤ c (b.1, b.2.1) := le _
        have := C.b b hb
        omega
      · obtain ⟨t, ht, rfl | rfl⟩ := rgs_mem.mp hb
        · have := tri l t Zs hl ht hz
          have h2 : closeC ts c (Zs, t) ≤ c (Zs, t) := le _
          have := C.lo t ht
          show - closeC ts c (l, Zs) ≤ - closeC ts c (l, t) + 0
          omega
        · have := tri l Zs t hl hz ht
          have h2 : closeC ts c (t, Zs) ≤ c (t, Zs) := le _
          have := C.hi t ht
          show - closeC ts c (l, t) ≤ - closeC ts c (l, Zs) + 9999
          omega
    refine ⟨_, sol_of (v := fun x => - closeC ts c (l, x)) (fun b hb => ⟨List.mem_cons_of_mem _ (hB b hb).1, List.mem_cons_of_mem _ (hB b hb).2⟩) rows, ?_⟩
    unfold ext
    rw [if_pos (List.mem_cons_of_mem _ hl), if_pos (List.mem_cons_of_mem _ hr)]
    show - closeC ts c (l, l) - - closeC ts c (l, Zs) - (- closeC ts c (l, r) - - closeC ts c (l, Zs)) = _
    rw [ll]; omega
/-! ### the opposite -/
def opp (b : B1) : B1 := (b.2.1, b.1, -b.2.2 - 1)
theorem opp_no {B : List B1} {b : B1} : (¬ ∃ s, Sol (B ++ [opp b]) s) ↔ ∀ s, Sol B s → s b.1 ≤ s b.2.1 + b.2.2 := by
  constructor
  · intro h s S
    by_cases c : s b.1 ≤ s b.2.1 + b.2.2
    · exact c
    · refine absurd ⟨s, S.z, S.lo, S.hi, fun x hx => ?_⟩ h
      rcases List.mem_append.mp hx with hx | hx
      · exact S.b x hx
      · rw [List.mem_singleton.mp hx]
        show s b.2.1 ≤ s b.1 + (-b.2.2 - 1)
        omega
  · rintro h ⟨s, S⟩
    have h1 := h s ⟨S.z, S.lo, S.hi, fun x hx => S.b x (List.mem_append_left _ hx)⟩
    have h2 := S.b (opp b) (List.mem_append_right _ (by simp))
    have h2 : s b.2.1 ≤ s b.1 + (-b.2.2 - 1) := h2
    omega
theorem sol_sub {B B' : List B1} {s : Str → Int} (h : ∀ b ∈ B, b ∈ B') (S : Sol B' s) : Sol B s := ⟨S.z, S.lo, S.hi, fun b hb => S.b b (h b hb)⟩
/-- with the tightest gap put in, the tightest is the same -/
theorem tight_add {B : List B1} {l r : Str} {m : Int} (T : Tight B l r m) : Tight (B ++ [(l, r, m)]) l r m := by
  refine ⟨fun s S => T.all s (sol_sub (fun b hb => List.mem_append_left _ hb) S), ?_⟩
  obtain ⟨s, S, e⟩ := T.ex
  refine ⟨s, ⟨S.z, S.lo, S.hi, fun b hb => ?_⟩, e⟩
  rcases List.mem_append.mp hb with hb | hb
  · exact S.b b hb
  · rw [List.mem_singleton.mp hb]; show s l ≤ s r + m; omega
end DL
namespace DL
open PySem PySem.Spec PyProof.Rows L2 BF
local macro_rules | `(tactic| walk_at "ev") => `(tactic| try simp only [e_seq, e_next, e_brk, e_cnt, e_drop, e_ret, e_retN, e_ifS, e_asg, e_gN, e_gSb, e_gTp, e_gCn, e_gNl, e_var, e_varK, e_nth0, e_nthS, e_put0, e_putS, e_c, e_op, e_un, e_call, e_nil, e_cons, e_tup, e_lst, e_test, e_asB, e_tru, e_andT, e_orT, e_notT, e_andV, e_orV, e_notV, e_if, e_aug, e_augS, e_sl, e_part, e_partK, e_noPart, e_bm0, e_bm, e_join, e_yes, e_wipe0, e_wipeS, e_lc, e_for, v_add, v_addS, v_addT, v_iadd, v_sub, v_mul, v_fdiv, v_mod, v_pow, v_shl, v_shr, v_neg, v_lt, v_le, v_gt, v_ge, v_eqI, v_neI, v_eqS, v_neS, v_inS, v_ninS, v_inT, v_ninT, v_inR, v_ninR, v_inSeq, v_seqO, v_seqR, v_seqT, v_seqL, v_ixR, v_ixT, v_ixL, v_ixS, v_atK, v_atSK, v_get, v_getL, v_getK, v_set, v_setL, v_setK, v_on1, v_on2, v_lenR, v_lenT, v_lenL, v_lenS, v_seqK, v_tuple, v_list, v_abs, v_intI, v_intB, v_okL, v_isLst, v_app, v_lstK, v_slS, v_slT, v_join, v_is, v_isnot, v_max, v_min, v_iSeq, v_srcT, v_srcL, v_srcS, v_srcR, v_srcO, v_iRg1, v_rg1, v_truN, v_truB, v_truI, v_truS, v_truR, v_truT, v_truRol, v_truL, v_inRol, v_ninRol, v_inO, v_inOd, v_inDic, v_ixO, v_ixOd, v_ixSeq, v_ixDic, v_dgetK, v_ixStr, v_getO, v_getOd, v_setO, v_setOd, v_setDic, v_lenO, v_lenOd, e_dic0, e_disp, e_pairs0, e_pairsS, e_chain, v_bits, v_iRg3, v_rg3, v_iRg2, v_rg2, v_iEn, v_enT, v_enR, v_enO, v_iZp, v_zpT, v_zpR, v_zpO, v_repr, v_strI, v_strS, v_addR, v_and, v_slR, v_slL, v_ltS, v_srtT, v_srtR, v_srtO, v_srtD, v_revR, v_revT, v_isB, v_iZs, v_zsT, v_eqIS, v_neIS, v_eqB, v_neB])
/-! dicts by texts -/
theorem dget_dset (kvs : Kvs) (k v k' : D) : dget (dset kvs k v) k' = if nk k' = nk k then some v else dget kvs k' := by
  unfold dset
  by_cases c : (dget kvs k).isSome = true
  · rw [if_pos c]
    have key : ∀ l : Kvs, (l.map fun p => if nk p.1 = nk k then (p.1, v) else p).find? (fun p => decide (nk p.1 = nk k')) = (l.find? fun p => decide (nk p.1 = nk k')).map fun p => if nk p.1 = nk k then (p.1, v) else p := by
      intro l
      induction l with
      | nil => rfl
      | cons p r ih =>
        rw [List.map_cons, List.find?_cons, List.find?_cons]
        have e : nk (if nk p.1 = nk k then (p.1, v) else p).1 = nk p.1 := by split <;> rfl
        rw [e]
        cases decide (nk p.1 = nk k') with
        | true => rfl
        | false => exact ih
    unfold dget at c ⊢
    rw [key]
    by_cases e : nk k' = nk k
    · rw [if_pos e]
      rw [← e] at c
      cases q : kvs.find? fun p => decide (nk p.1 = nk k') with
      | none => rw [q] at c; cases c
      | some p =>
        have := List.find?_some q
        have : nk p.1 = nk k' := of_decide_eq_true this
        show some (if nk p.1 = nk k then (p.1, v) else p).2 = some v
        rw [if_pos (this.trans e)]
    · rw [if_neg e]
      cases q : kvs.find? fun p => decide (nk p.1 = nk k') with
      | none => rfl
      | some p =>
        have := List.find?_some q
        have : nk p.1 = nk k' := of_decide_eq_true this
        show some (if nk p.1 = nk k then (p.1, v) else p).2 = some p.2
        rw [if_neg fun z => e (this.symm.trans z)]
  · rw [if_neg c]
    unfold dget at c ⊢
    rw [List.find?_append]
    by_cases e : nk k' = nk k
    · rw [if_pos e]
      rw [← e] at c
      cases q : kvs.find? fun p => decide (nk p.1 = nk k') with
      | none => simp [e]
      | some p => rw [q] at c; exact absurd rfl c
    · rw [if_neg e]
      have : ([(k, v)] : Kvs).find? (fun p => decide (nk p.1 = nk k')) = none := by
        rw [List.find?_cons, decide_eq_false (Ne.symm e)]; rfl
      rw [this]
      cases kvs.find? fun p => decide (nk p.1 = nk k') <;> rfl
theorem nk_str {x y : Str} : (nk (.str x) = nk (.str y)) ↔ x = y := by
  simp [nk]
structure DSt (kvs : Kvs) (f : Str → Option D) : Prop where
  all : kvs.all (fun p => (scaK p.1).isSome) = true
  get : ∀ x, dget kvs (.str x) = f x
theorem DSt.nil : DSt [] fun _ => none := ⟨rfl, fun _ => rfl⟩
theorem DSt.put {kvs : Kvs} {f : Str → Option D} (d : DSt kvs f) (r : Str) (v : D) : DSt (dset kvs (.str r) v) (fup f r (some v)) := by
  refine ⟨dset_all (P := fun k => (scaK k).isSome) d.all rfl, fun x => ?_⟩
  rw [dget_dset]
  unfold fup
  by_cases e : x = r
  · rw [if_pos (nk_str.mpr e), if_pos e]
  · rw [if_neg fun z => e (nk_str.mp z), if_neg e]; exact d.get x
theorem DSt.fit {kvs : Kvs} {f : Str → Option D} (d : DSt kvs f) (x : Str) : fit kvs (.str x) = true := by
  unfold DL.fit
  rw [d.all]; rfl
theorem DSt.to {kvs : Kvs} {f g : Str → Option D} (d : DSt kvs f) (e : ∀ x, f x = g x) : DSt kvs g := ⟨d.all, fun x => by rw [d.get x, e x]⟩
/-! bounds -/
def bD (b : B1) : D := .tup [.str b.1, .str b.2.1, .int b.2.2]
def bsD (B : List B1) : D := .tup (B.map bD)
def ddS (acc : List Str) (x : Str) : List Str := if x ∈ acc then acc else acc ++ [x]
structure Keys (kvs : Kvs) (acc : List Str) : Prop where
  ks : kvs.map (·.1) = acc.map D.str
theorem Keys.all {kvs : Kvs} {acc : List Str} (k : Keys kvs acc) : kvs.all (fun p => (scaK p.1).isSome) = true := by
  rw [List.all_eq_true]
  intro p hp
  have : p.1 ∈ kvs.map (·.1) := List.mem_map.mpr ⟨p, hp, rfl⟩
  rw [k.ks] at this
  obtain ⟨x, _, e⟩ := List.mem_map.mp this
  rw [← e]; rfl
theorem Keys.has : ∀ {kvs : Kvs} {acc : List Str} (k : Keys kvs acc) (x : Str), (dget kvs (.str x)).isSome = decide (x ∈ acc)
  | [], acc, k, x => by
    have : acc = [] := by have := k.ks; cases acc with
      | nil => rfl
      | cons a r => cases this
    subst this; rfl
  | p :: kvs, acc, k, x => by
    cases acc with
    | nil => have := k.ks; cases this
    | cons a r =>
      have e := k.ks
      rw [List.map_cons, List.map_cons] at e
      injection e with e1 e2
      have ih := Keys.has ⟨e2⟩ x
      unfold dget at ih ⊢
      rw [List.find?_cons, e1]
      by_cases c : a = x
      · rw [decide_eq_true (nk_str.mpr c)]
        simp [c]
      · rw [decide_eq_false fun z => c (nk_str.mp z), ih]
        simp [Ne.symm c]
theorem Keys.put {kvs : Kvs} {acc : List Str} (k : Keys kvs acc) (x : Str) (v : D) : Keys (dset kvs (.str x) v) (ddS acc x) := by
  refine ⟨?_⟩
  unfold dset ddS
  rw [k.has x]
  by_cases c : x ∈ acc
  · rw [decide_eq_true c, if_pos rfl, if_pos c, List.map_map, ← k.ks]
    refine List.map_congr_left fun p _ => ?_
    show (if nk p.1 = nk (.str x) then (p.1, v) else p).1 = p.1
    split <;> rfl
  · rw [decide_eq_false c, if_neg (by decide), if_neg c, List.map_append, List.map_append, k.ks]; rfl
theorem Keys.fit {kvs : Kvs} {acc : List Str} (k : Keys kvs acc) (x : Str) : fit kvs (.str x) = true := by
  unfold DL.fit
  rw [k.all]; rfl
theorem ddS_len (acc : List Str) (x : Str) : (ddS acc x).length ≤ acc.length + 1 := by unfold ddS; split <;> simp
theorem fold_len : ∀ (l acc : List Str), (l.foldl ddS acc).length ≤ acc.length + l.length
  | [], acc => by simp
  | x :: l, acc => by
    have h1 := fold_len l (ddS acc x)
    have h2 := ddS_len acc x
    rw [List.foldl_cons, List.length_cons]; omega
theorem Keys.len {kvs : Kvs} {acc : List Str} (k : Keys kvs acc) : kvs.length = acc.length := by
  have := congrArg List.length k.ks
  simpa using this
def sp_terms_of : P1 := fun ds h Q => ∃ B : List B1, ds = [bsD B] ∧ B.length ≤ 1000 ∧ ∀ l, h l = none → Q (.ref l) (up h l (.lst ((termsF B).map D.str)))
theorem len_terms_of : ∀ ds h Q, sp_terms_of ds h Q → ds.length = 1 := fun ds h Q ⟨_, e, _⟩ => by rw [e]; rfl
theorem alike_strs (l : List Str) : alikeB (l.map D.str) = true := by
  unfold alikeB
  simp [List.all_map, pd, PySem.W.alike]
theorem sorts_strs (l : List Str) : sortsB (l.map D.str) = true := by
  unfold sortsB
  rw [Bool.or_eq_true]
  right
  rw [List.all_map]
  exact List.all_eq_true.mpr fun _ _ => rfl
theorem pures_strs (n : Nat) (l : List Str) : pures? n (l.map D.str) = true := pures_of fun x hx => by
  obtain ⟨y, _, rfl⟩ := List.mem_map.mp hx
  simp [pure?]
theorem ends_len (B : List B1) : (endsF B).length = 2 * B.length := by
  unfold endsF
  induction B with
  | nil => rfl
  | cons b r ih => rw [List.flatMap_cons, List.length_append, ih]; simp only [List.length_cons, List.length_nil]; omega
theorem sat_terms_of : ∀ ds h Q, sp_terms_of ds h Q → rd_terms_of (endN Q) (startD 6 ds) h := by
  rintro ds h Q ⟨B, rfl, hB, q⟩
  show rd_terms_of (endN Q) [some (bsD B), none, none, none, none, none] h
  unfold rd_terms_of
  walk_at "ev"
  intro fd nfd
  unfold rd_terms_of_1
  walk_at "ev"
  show srcD (.tup (B.map bD)) _ _
  rw [v_srcT]
  refine ⟨fun i σ hh => ∃ kvs x2 x3 x4, hh = up h fd (.dic kvs) ∧ Keys kvs ((endsF (B.take i)).foldl ddS []) ∧ σ = [some (bsD B), some (.ref fd), x2, x3, x4, none], Lw.of ⟨[], none, none, none, rfl, ⟨rfl⟩, rfl⟩, fun _ _ _ _ => trivial, ?_, ?_⟩
  · rintro i x σ hh hx ⟨kvs, x2, x3, x4, rfl, k, rfl⟩
    rw [List.getElem?_map] at hx
    obtain ⟨⟨l, r, g⟩, hb, rfl⟩ := Option.map_eq_some_iff.mp hx
    obtain ⟨hi, eb⟩ := List.getElem?_eq_some_iff.mp hb
    show gTp 3 _ (.tup [.str l, .str r, .int g]) _ _ _
    walk_at "ev"
    refine ⟨rfl, ?_⟩
    unfold rd_terms_of_b1
    walk_at "ev"
    rw [up_same]
    walk_at "ev"
    have hl1 : kvs.length ≤ 2000 := by
      rw [k.len]
      have := fold_len (endsF (B.take i)) []
      rw [ends_len, List.length_take] at this
      simp at this; omega
    refine ⟨k.fit l, sl_lt (by omega), ?_⟩
    unfold rd_terms_of_b1_1
    walk_at "ev"
    rw [up_same]
    walk_at "ev"
    refine ⟨(k.put l (.bool true)).fit r, sl_lt (by have := dset_len kvs (.str l) (.bool true); omega), Lw.of ⟨_, _, _, _, by rw [up_up, up_up], ?_, rfl⟩⟩
    have e : endsF (B.take (i + 1)) = endsF (B.take i) ++ [l, r] := by
      unfold endsF
      rw [List.take_succ_eq_append_getElem hi, List.flatMap_append, eb]; rfl
    rw [e, List.foldl_append]
    exact (k.put l (.bool true)).put r (.bool true)
  · rintro σ hh ⟨kvs, x2, x3, x4, rfl, k, rfl⟩
    rw [List.length_map, List.take_length] at k
    walk_at "ev"
    unfold rd_terms_of_2
    walk_at "ev"
    rw [up_same]
    walk_at "ev"
    have ek : (endsF B).foldl ddS [] = dd (endsF B) := rfl
    rw [ek] at k
    have hl : (dd (endsF B)).length ≤ 2000 := by
      rw [← ek]
      have := fold_len (endsF B) []
      rw [ends_len] at this
      simp at this; omega
    rw [k.ks]
    refine ⟨k.all, pures_strs _ _, alike_strs _, sorts_strs _, by rw [List.length_map]; exact Nat.le_of_lt (sl_lt (by omega)), fun ys p hp hs np => ?_⟩
    have fp : fd ≠ p := nef up_same np
    rw [sorted_strs hp hs]
    walk_at "ev"
    rw [up_same]
    walk_at "ev"
    refine lcT_tf (sortS (dd (endsF B))) D.str D.str (fun x => decide (x ≠ Zs)) rfl (by rw [(sortS_perm _).length_eq]; exact Nat.le_of_lt (sl_lt (by omega))) (by unfold stabO; exact up_same) (fun y hy Q' R h1 h2 => ?_) fun p2 np2 => ?_
    · walk_at "ev"
      have e : (!decide (y = Str.ofString "0")) = decide (y ≠ Zs) := by
        by_cases z : y = Zs
        · rw [decide_eq_true (show y = Str.ofString "0" from z), decide_eq_false (fun q => q z)]; rfl
        · rw [decide_eq_false (show ¬ y = Str.ofString "0" from z), decide_eq_true (show y ≠ Zs from z)]; rfl
      rw [e]
      cases c : decide (y ≠ Zs)
      · rw [if_neg Bool.false_ne_true]; exact h2 c _ le.refl
      · rw [if_pos (by trivial)]; exact h1 c _ le.refl
    · have n2 : h p2 = none := by
        have pp2 : p ≠ p2 := nef up_same np2
        have fp2 : fd ≠ p2 := nef (show up (up h fd (.dic kvs)) p _ fd = some (.dic kvs) by rw [up_ne fp, up_same]) np2
        rw [up_ne pp2.symm, up_ne fp2.symm] at np2; exact np2
      refine lh_le (le.up2 ((le.up nfd).trans (le.up np))) (q p2 n2)
def sp_with_range : P1 := fun ds h Q => ∃ (B : List B1) (ts : List Str) (tl : Addr), ds = [bsD B, .ref tl] ∧ B.length ≤ 1000 ∧ ts.length ≤ 3000 ∧ h tl = some (.lst (ts.map D.str)) ∧ ∀ l, h l = none → Q (.ref l) (up h l (.lst ((rowsF B ts).map bD)))
theorem len_with_range : ∀ ds h Q, sp_with_range ds h Q → ds.length = 2 := fun ds h Q ⟨_, _, _, e, _⟩ => by rw [e]; rfl
theorem rgs_len (ts : List Str) : (rgs ts).length = 2 * ts.length := by
  unfold rgs
  induction ts with
  | nil => rfl
  | cons t r ih => rw [List.flatMap_cons, List.length_append, ih]; simp only [List.length_cons, List.length_nil]; omega
theorem sat_with_range : ∀ ds h Q, sp_with_range ds h Q → rd_with_range (endN Q) (startD 4 ds) h := by
  rintro ds h Q ⟨B, ts, tl, rfl, hB, hts, et, q⟩
  show rd_with_range (endN Q) [some (bsD B), some (.ref tl), none, none] h
  unfold rd_with_range
  walk_at "ev"
  show seqK _ (some (B.map bD))
  walk_at "ev"
  intro fd nfd
  have tf : tl ≠ fd := nef et nfd
  unfold rd_with_range_1
  walk_at "ev"
  rw [up_ne tf, et]
  walk_at "ev"
  refine ⟨fun i σ hh => hh = up h fd (.lst ((rowsF B (ts.take i)).map bD)) ∧ ∃ x, σ = [some (bsD B), some (.ref tl), some (.ref fd), x], Lw.of ⟨by unfold rowsF rgs; simp, _, rfl⟩, fun i σ hh e => by rw [e.1]; show up h fd _ tl = _; rw [up_ne tf]; exact et, ?_, ?_⟩
  · rintro i x σ hh hx ⟨rfl, u, rfl⟩
    rw [List.getElem?_map] at hx
    obtain ⟨t, ht, rfl⟩ := Option.map_eq_some_iff.mp hx
    obtain ⟨hi, et'⟩ := List.getElem?_eq_some_iff.mp ht
    have hlen : (rowsF B (ts.take i)).length ≤ 8000 := by
      unfold rowsF
      rw [List.length_append, rgs_len, List.length_take]; omega
    walk_at "ev"
    unfold rd_with_range_b1
    walk_at "ev"
    rw [up_same]
    walk_at "ev"
    refine ⟨trivial, by show 3 ≤ sizeLine; decide, sl_lt (by rw [List.length_map]; omega), ?_⟩
    unfold rd_with_range_b1_1
    walk_at "ev"
    rw [up_same]
    walk_at "ev"
    refine ⟨trivial, by show 3 ≤ sizeLine; decide, sl_lt (by rw [List.length_append, List.length_map]; simp; omega), Lw.of ⟨?_, _, rfl⟩⟩
    have e : (rowsF B (ts.take (i + 1))).map bD = ((rowsF B (ts.take i)).map bD ++ [.tup [.str (Str.ofString "0"), .str t, .int 0]]) ++ [.tup [.str t, .str (Str.ofString "0"), .int 9999]] := by
      unfold rowsF rgs
      rw [List.take_succ_eq_append_getElem hi, List.flatMap_append, et', List.map_append, List.map_append, List.map_append]
      simp [bD, Zs]
    rw [up_up, up_up, e]
  · rintro σ hh ⟨rfl, u, rfl⟩
    rw [List.length_map, List.take_length]
    walk_at "ev"
    unfold rd_with_range_2
    walk_at "ev"
    exact lh_of (q fd nfd)
end DL
namespace DL
open PySem PySem.Spec PyProof.Rows L2 BF
local macro_rules | `(tactic| walk_at "ev") => `(tactic| try simp only [e_seq, e_next, e_brk, e_cnt, e_drop, e_ret, e_retN, e_ifS, e_asg, e_gN, e_gSb, e_gTp, e_gCn, e_gNl, e_var, e_varK, e_nth0, e_nthS, e_put0, e_putS, e_c, e_op, e_un, e_call, e_nil, e_cons, e_tup, e_lst, e_test, e_asB, e_tru, e_andT, e_orT, e_notT, e_andV, e_orV, e_notV, e_if, e_aug, e_augS, e_sl, e_part, e_partK, e_noPart, e_bm0, e_bm, e_join, e_yes, e_wipe0, e_wipeS, e_lc, e_for, v_add, v_addS, v_addT, v_iadd, v_sub, v_mul, v_fdiv, v_mod, v_pow, v_shl, v_shr, v_neg, v_lt, v_le, v_gt, v_ge, v_eqI, v_neI, v_eqS, v_neS, v_inS, v_ninS, v_inT, v_ninT, v_inR, v_ninR, v_inSeq, v_seqO, v_seqR, v_seqT, v_seqL, v_ixR, v_ixT, v_ixL, v_ixS, v_atK, v_atSK, v_get, v_getL, v_getK, v_set, v_setL, v_setK, v_on1, v_on2, v_lenR, v_lenT, v_lenL, v_lenS, v_seqK, v_tuple, v_list, v_abs, v_intI, v_intB, v_okL, v_isLst, v_app, v_lstK, v_slS, v_slT, v_join, v_is, v_isnot, v_max, v_min, v_iSeq, v_srcT, v_srcL, v_srcS, v_srcR, v_srcO, v_iRg1, v_rg1, v_truN, v_truB, v_truI, v_truS, v_truR, v_truT, v_truRol, v_truL, v_inRol, v_ninRol, v_inO, v_inOd, v_inDic, v_ixO, v_ixOd, v_ixSeq, v_ixDic, v_dgetK, v_ixStr, v_getO, v_getOd, v_setO, v_setOd, v_setDic, v_lenO, v_lenOd, e_dic0, e_disp, e_pairs0, e_pairsS, e_chain, v_bits, v_iRg3, v_rg3, v_iRg2, v_rg2, v_iEn, v_enT, v_enR, v_enO, v_iZp, v_zpT, v_zpR, v_zpO, v_repr, v_strI, v_strS, v_addR, v_and, v_slR, v_slL, v_ltS, v_srtT, v_srtR, v_srtO, v_srtD, v_revR, v_revT, v_isB, v_iZs, v_zsT, v_eqIS, v_neIS, v_eqB, v_neB])
/-- the edge at x -/
def edgeF (F : Str → Option B1) (x : Str) : B1 := (F x).getD (Zs, Zs, 0)
def edgesF (F : Str → Option B1) (t0 : Str) (j : Nat) : List B1 := (List.range j).map fun i => edgeF F (bk F t0 i)
theorem bk_succ {F : Str → Option B1} {x : Str} (h : ∀ n, ∃ b, F (bk F x n) = some b) (i : Nat) : bk F x (i + 1) = (edgeF F (bk F x i)).1 := by
  obtain ⟨b, hb⟩ := h i
  show back F (bk F x i) = _
  unfold back edgeF
  rw [hb]; rfl
theorem edge_some {F : Str → Option B1} {x : Str} (h : ∀ n, ∃ b, F (bk F x n) = some b) (i : Nat) : F (bk F x i) = some (edgeF F (bk F x i)) := by
  obtain ⟨b, hb⟩ := h i
  unfold edgeF; rw [hb]; rfl
theorem edges_ring {F : Str → Option B1} {t0 : Str} (h : ∀ n, ∃ b, F (bk F t0 n) = some b) {k : Nat} (hk : bk F t0 k = t0) (least : ∀ j, 0 < j → j < k → bk F t0 j ≠ t0) : ∀ (n i f : Nat), i + (n + 1) = k → n < f →
    ringGo F t0 f (bk F t0 i) = (List.range (n + 1)).map fun q => edgeF F (bk F t0 (i + q))
  | n, i, 0, _, hf => absurd hf (Nat.not_lt_zero _)
  | 0, i, f + 1, hi, _ => by
    rw [ringGo, edge_some h i]
    have e : (edgeF F (bk F t0 i)).1 = t0 := by rw [← bk_succ h i, show i + 1 = k by omega]; exact hk
    simp only [e, if_true]; rfl
  | n + 1, i, f + 1, hi, hf => by
    rw [ringGo, edge_some h i]
    have ne : (edgeF F (bk F t0 i)).1 ≠ t0 := by rw [← bk_succ h i]; exact least (i + 1) (by omega) (by omega)
    simp only [if_neg ne]
    rw [← bk_succ h i, edges_ring h hk least n (i + 1) f (by omega) (by omega), List.range_succ_eq_map (n := n + 1), List.map_cons, List.map_map]
    congr 1
    refine List.map_congr_left fun q _ => ?_
    show _ = edgeF F (bk F t0 (i + (q + 1)))
    rw [show i + (q + 1) = i + 1 + q by omega]
theorem edges_end {F : Str → Option B1} {t0 : Str} (h : ∀ n, ∃ b, F (bk F t0 n) = some b) {k N : Nat} (h0 : 0 < k) (hN : k ≤ N) (hk : bk F t0 k = t0) (least : ∀ j, 0 < j → j < k → bk F t0 j ≠ t0) : ringGo F t0 N t0 = edgesF F t0 k := by
  have := edges_ring h hk least (k - 1) 0 N (by omega) (by omega)
  rw [show k - 1 + 1 = k by omega] at this
  have e : bk F t0 0 = t0 := rfl
  rw [e] at this
  rw [this]
  unfold edgesF
  exact List.map_congr_left fun q _ => by rw [Nat.zero_add]
theorem edges_succ (F : Str → Option B1) (t0 : Str) (j : Nat) : edgesF F t0 (j + 1) = edgesF F t0 j ++ [edgeF F (bk F t0 j)] := by
  unfold edgesF
  rw [List.range_succ, List.map_append]; rfl
theorem bD_0 {b : B1} {h : MH} {Q : KD} : ixD (bD b) (.int 0) h Q = Q (.str b.1) h := rfl
theorem bD_1 {b : B1} {h : MH} {Q : KD} : ixD (bD b) (.int 1) h Q = Q (.str b.2.1) h := rfl
theorem bD_2 {b : B1} {h : MH} {Q : KD} : ixD (bD b) (.int 2) h Q = Q (.int b.2.2) h := rfl
def mp {α : Type} (g : α → D) (f : Str → Option α) : Str → Option D := fun x => (f x).map g
theorem dic_ix {kvs : Kvs} {f : Str → Option D} (d : DSt kvs f) {x : Str} {v : D} (e : f x = some v) {h : MH} {Q : KD} : ixDic kvs (.str x) h Q = Q v h := by
  rw [v_ixDic, d.get x, e]
  show (_ ∧ Q v h) = Q v h
  rw [d.fit x]; simp
/-- ring_from -/
def sp_ring_from : P1 := fun ds h Q => ∃ (fr : Addr) (kvs : Kvs) (F : Str → Option B1) (x : Str) (N : Nat), ds = [.ref fr, .str x, .int (N : Nat)] ∧ N ≤ 10000 ∧ h fr = some (.dic kvs) ∧ DSt kvs (mp bD F) ∧ (∀ n, ∃ b, F (bk F x n) = some b) ∧
  (∃ k, 0 < k ∧ k ≤ N ∧ bk F (bk F x N) k = bk F x N ∧ ∀ j, 0 < j → j < k → bk F (bk F x N) j ≠ bk F x N) ∧ Q (.tup ((ringAt F x N).reverse.map bD)) h
theorem len_ring_from : ∀ ds h Q, sp_ring_from ds h Q → ds.length = 3 := fun ds h Q ⟨_, _, _, _, _, e, _⟩ => by rw [e]; rfl
theorem last_get {α : Type} {l : List α} {x : α} (f : α → D) : atI ((l ++ [x]).map f) (-1) = some (f x) := atI_neg (by rw [List.map_append]; simp)
theorem sat_ring_from : ∀ ds h Q, sp_ring_from ds h Q → rd_ring_from (endN Q) (startD 5 ds) h := by
  rintro ds h Q ⟨fr, kvs, F, x, N, rfl, hN, ef, d, hF, ⟨k, k0, kN, hk, least⟩, q⟩
  show rd_ring_from (endN Q) [some (.ref fr), some (.str x), some (.int (N : Nat)), none, none] h
  have ix : ∀ (n : Nat) {h : MH} {Q : KD}, ixDic kvs (.str (bk F x n)) h Q = Q (bD (edgeF F (bk F x n))) h := fun n {h Q} => dic_ix d (by unfold mp; rw [edge_some hF n]; rfl)
  unfold rd_ring_from
  walk_at "ev"
  refine ⟨bnd62 (by omega), ?_⟩
  refine ⟨fun i σ hh => hh = h ∧ ∃ y, σ = [some (.ref fr), some (.str (bk F x i)), some (.int (N : Nat)), y, none], Lw.of ⟨rfl, _, rfl⟩, fun _ _ _ _ => trivial, ?_, ?_⟩
  · rintro i z σ hh hx ⟨rfl, y, rfl⟩
    walk_at "ev"
    unfold rd_ring_from_b1
    walk_at "ev"
    rw [ef]
    walk_at "ev"
    rw [← v_ixDic, ix i, bD_0, ← bk_succ hF i]
    exact Lw.of ⟨rfl, _, rfl⟩
  · rintro σ hh ⟨rfl, y, rfl⟩
    rw [rg_len]
    walk_at "ev"
    unfold rd_ring_from_1
    walk_at "ev"
    rw [ef]
    walk_at "ev"
    rw [← v_ixDic, ix N]
    refine ⟨by show 1 ≤ sizeLine; decide, fun rg nrg => ?_⟩
    have fg : fr ≠ rg := nef ef nrg
    unfold rd_ring_from_2
    walk_at "ev"
    unfold dWhile
    have hF2 : ∀ n, ∃ b, F (bk F (bk F x N) n) = some b := fun n => by rw [← bk_add]; exact hF _
    refine ⟨fun m σ h2 => ∃ j y, 0 < j ∧ j ≤ k ∧ m = k - j ∧ h2 = up hh rg (.lst ((edgesF F (bk F x N) j).map bD)) ∧ σ = [some (.ref fr), some (.str (bk F x N)), some (.int (N : Nat)), y, some (.ref rg)], ⟨k - 1, Lw.of ⟨1, _, by decide, k0, rfl, by rw [edges_succ]; rfl, rfl⟩⟩, ?_⟩
    rintro m σ h2 ⟨j, y, j0, jk, rfl, rfl, rfl⟩
    obtain ⟨j, rfl⟩ : ∃ i, j = i + 1 := ⟨j - 1, by omega⟩
    walk_at "ev"
    rw [up_same]
    walk_at "ev"
    have el : atI ((edgesF F (bk F x N) (j + 1)).map bD) (-1) = some (bD (edgeF F (bk F (bk F x N) j))) := by rw [edges_succ]; exact last_get bD
    rw [el]
    walk_at "ev"
    rw [bD_0, ← bk_succ hF2 j]
    walk_at "ev"
    by_cases c : bk F (bk F x N) (j + 1) = bk F x N
    · rw [decide_eq_true c, if_neg (by decide)]
      have e : j + 1 = k := by
        by_cases z : j + 1 < k
        · exact absurd c (least (j + 1) (by omega) z)
        · omega
      unfold rd_ring_from_3
      walk_at "ev"
      rw [up_same]
      walk_at "ev"
      intro p np
      rw [up_same]
      walk_at "ev"
      unfold ringAt at q
      rw [edges_end hF2 k0 kN hk least, ← e, List.map_reverse] at q
      exact lh_le ((le.up nrg).trans (le.up np)) q
    · rw [decide_eq_false c, if_pos (by decide)]
      unfold rd_ring_from_b2
      walk_at "ev"
      rw [up_same]
      walk_at "ev"
      rw [el]
      walk_at "ev"
      rw [bD_0, ← bk_succ hF2 j]
      rw [up_ne fg, ef]
      walk_at "ev"
      rw [← v_ixDic, ← bk_add, ix]
      refine ⟨trivial, ?_⟩
      have hlen : ((edgesF F (bk F x N) (j + 1)).map bD).length = j + 1 := by unfold edgesF; rw [List.length_map, List.length_map, List.length_range]
      have jk2 : j + 1 < k := by
        by_cases z : j + 1 = k
        · rw [z] at c; exact absurd hk c
        · omega
      rw [up_same]
      walk_at "ev"
      refine ⟨by rw [hlen]; exact sl_lt (by omega), k - (j + 2), by omega, Lw.of ⟨j + 2, _, by omega, by omega, rfl, ?_, rfl⟩⟩
      rw [up_up, edges_succ F _ (j + 1), List.map_append, bk_add]; rfl
/-! settle -/
def optD : Option Str → D
  | none => .none
  | some x => .str x
def resD (B : List B1) : Res → D
  | .least w => .tup [.str (Str.ofString "least"), .tup ((termsF B).map fun t => .tup [.str t, .int ((w t).getD 0)])]
  | .ring r => .tup [.str (Str.ofString "ring"), .tup (r.reverse.map bD)]
def sp_settle : P1 := fun ds h Q => ∃ B : List B1, ds = [bsD B] ∧ B.length ≤ 100 ∧ Q (resD B (settleF B)) h
theorem len_settle : ∀ ds h Q, sp_settle ds h Q → ds.length = 1 := fun ds h Q ⟨_, e, _⟩ => by rw [e]; rfl
/-- the state, as it lies -/
structure SetH (h0 : MH) (tl rl a1 a2 : Addr) (ts : List Str) (rows : List B1) (s : St Str) (hh : MH) : Prop where
  le_ : le h0 hh
  t : hh tl = some (.lst (ts.map D.str))
  r : hh rl = some (.lst (rows.map bD))
  n1 : a1 ≠ tl ∧ a1 ≠ rl ∧ a2 ≠ tl ∧ a2 ≠ rl ∧ a1 ≠ a2
  w : ∃ kvs, hh a1 = some (.dic kvs) ∧ DSt kvs (mp D.int s.w) ∧ kvs.length ≤ s.time + 1
  f : ∃ kvs, hh a2 = some (.dic kvs) ∧ DSt kvs (mp bD s.fr) ∧ kvs.length ≤ s.time
  n0 : h0 a1 = none ∧ h0 a2 = none
def slS (B : List B1) (tl rl a1 a2 : Addr) (u : Option Str) (x5 x7 x8 x9 x10 : Option D) : Sl := [some (bsD B), some (.ref tl), some (.ref rl), some (.ref a1), some (.ref a2), x5, some (optD u), x7, x8, x9, x10, none]
theorem le_put {h0 hh : MH} {a : Addr} {o : MO} (l : le h0 hh) (n : h0 a = none) : le h0 (up hh a o) := fun b u e => by
  rw [up_ne (fun z => by rw [z, n] at e; cases e)]; exact l b u e
theorem ret_bool {Q : KD} {b : Bool} {h : MH} : True := trivial
/-- one bound is looked at -/
theorem settle_turn {p1 p2 p3 : P1} {N : Nd} {B : List B1} {h0 hh : MH} {tl rl a1 a2 : Addr} {ts : List Str} {rows : List B1} {s : St Str} {x5 x8 x9 x10 : Option D} {b : B1} (H : SetH h0 tl rl a1 a2 ts rows s hh) (ht : s.time < 1000000)
    (fin : ∀ hh' x8 x9 x10, SetH h0 tl rl a1 a2 ts rows (relax s b) hh' → N.nx (slS B tl rl a1 a2 (relax s b).up x5 (some (bD b)) x8 x9 x10) hh') :
    rd_settle_b2 p1 p2 p3 N (slS B tl rl a1 a2 s.up x5 (some (bD b)) x8 x9 x10) hh := by
  obtain ⟨l, r, g⟩ := b
  obtain ⟨kw, ew, dw, lw⟩ := H.w
  obtain ⟨kf, ef, df, lf⟩ := H.f
  obtain ⟨n1, n2, n3, n4, n5⟩ := H.n1
  unfold rd_settle_b2 slS
  walk_at "ev"
  show gTp 3 _ (.tup [.str l, .str r, .int g]) _ _ _
  walk_at "ev"
  refine ⟨rfl, ?_⟩
  unfold rd_settle_b2_1
  walk_at "ev"
  rw [ew]
  walk_at "ev"
  refine ⟨dw.fit l, ?_⟩
  rw [dw.get l]
  have idle : relax s (l, r, g) = { s with time := s.time + 1 } → N.nx (slS B tl rl a1 a2 s.up x5 (some (bD (l, r, g))) (some (.str l)) (some (.str r)) (some (.int g))) hh := fun e => by
    have := fin hh (some (.str l)) (some (.str r)) (some (.int g)) (by
      rw [e]
      exact ⟨H.le_, H.t, H.r, H.n1, ⟨kw, ew, dw, Nat.le_succ_of_le lw⟩, ⟨kf, ef, df, Nat.le_succ_of_le lf⟩, H.n0⟩)
    rw [e] at this
    exact this
  cases hy : s.w l with
  | none =>
    have e : mp D.int s.w l = none := by unfold mp; rw [hy]; rfl
    rw [e, if_neg (by decide), if_neg (by decide)]
    refine idle ?_
    unfold relax
    simp only [hy]
  | some y =>
    have e : mp D.int s.w l = some (.int y) := by unfold mp; rw [hy]; rfl
    rw [e, if_pos (by rfl)]
    refine ⟨dw.fit r, ?_⟩
    rw [dw.get r]
    have raise : relax s (l, r, g) = ⟨fup s.w r (some (y - g)), fup s.fr r (some (l, r, g)), some r, s.time + 1, fup s.stamp r (s.time + 1)⟩ →
        N.nx (slS B tl rl a1 a2 (some r) x5 (some (bD (l, r, g))) (some (.str l)) (some (.str r)) (some (.int g))) (up (up hh a1 (.dic (dset kw (.str r) (.int (y - g))))) a2 (.dic (dset kf (.str r) (bD (l, r, g))))) := fun er => by
      have := fin (up (up hh a1 (.dic (dset kw (.str r) (.int (y - g))))) a2 (.dic (dset kf (.str r) (bD (l, r, g))))) (some (.str l)) (some (.str r)) (some (.int g)) (by
        rw [er]
        refine ⟨le_put (le_put H.le_ H.n0.1) H.n0.2, by rw [up_ne n3.symm, up_ne n1.symm]; exact H.t, by rw [up_ne n4.symm, up_ne n2.symm]; exact H.r, H.n1, ⟨_, by rw [up_ne n5, up_same], (dw.put r (.int (y - g))).to ?_, ?_⟩, ⟨_, up_same, (df.put r (bD (l, r, g))).to ?_, ?_⟩, H.n0⟩
        · intro x
          show fup (mp D.int s.w) r (some (.int (y - g))) x = mp D.int (fup s.w r (some (y - g))) x
          unfold mp fup; split <;> rfl
        · have := dset_len kw (.str r) (.int (y - g))
          show _ ≤ s.time + 1 + 1; omega
        · intro x
          show fup (mp bD s.fr) r (some (bD (l, r, g))) x = mp bD (fup s.fr r (some (l, r, g))) x
          unfold mp fup; split <;> rfl
        · have := dset_len kf (.str r) (bD (l, r, g))
          show _ ≤ s.time + 1; omega)
      rw [er] at this
      exact this
    cases hx : s.w r with
    | none =>
      have e2 : mp D.int s.w r = none := by unfold mp; rw [hx]; rfl
      rw [e2, if_pos (by rfl), if_pos (by trivial)]
      refine ⟨dw.fit l, ?_⟩
      walk_at "ev"
      rw [ew]
      walk_at "ev"
      refine ⟨dw.fit r, sl_lt (by omega), ?_⟩
      rw [up_ne n5.symm, ef]
      walk_at "ev"
      refine ⟨df.fit r, sl_lt (by omega), raise ?_⟩
      unfold relax
      simp only [hy, hx]
      rfl
    | some x =>
      have e2 : mp D.int s.w r = some (.int x) := by unfold mp; rw [hx]; rfl
      rw [e2, if_neg (by simp)]
      refine ⟨dw.fit l, ?_⟩
      walk_at "ev"
      rw [ew]
      walk_at "ev"
      refine ⟨dw.fit r, ?_⟩
      rw [dw.get r, e2]
      walk_at "ev"
      by_cases c : x < y - g
      · rw [decide_eq_true c, if_pos (by trivial)]
        rw [ew]
        walk_at "ev"
        refine ⟨dw.fit l, ?_⟩
        rw [dw.get l, e]
        walk_at "ev"
        rw [ew]
        walk_at "ev"
        refine ⟨dw.fit r, sl_lt (by omega), ?_⟩
        rw [up_ne n5.symm, ef]
        walk_at "ev"
        refine ⟨df.fit r, sl_lt (by omega), raise ?_⟩
        unfold relax
        simp only [hy, hx]
        rw [if_pos (show less y g (some x) = true from decide_eq_true c)]
      · rw [decide_eq_false c, if_neg (by decide)]
        refine idle ?_
        unfold relax
        simp only [hy, hx]
        rw [if_neg (show ¬ less y g (some x) = true from fun z => c (of_decide_eq_true z))]
end DL
namespace DL
open PySem PySem.Spec PyProof.Rows L2 BF
local macro_rules | `(tactic| walk_at "ev") => `(tactic| try simp only [e_seq, e_next, e_brk, e_cnt, e_drop, e_ret, e_retN, e_ifS, e_asg, e_gN, e_gSb, e_gTp, e_gCn, e_gNl, e_var, e_varK, e_nth0, e_nthS, e_put0, e_putS, e_c, e_op, e_un, e_call, e_nil, e_cons, e_tup, e_lst, e_test, e_asB, e_tru, e_andT, e_orT, e_notT, e_andV, e_orV, e_notV, e_if, e_aug, e_augS, e_sl, e_part, e_partK, e_noPart, e_bm0, e_bm, e_join, e_yes, e_wipe0, e_wipeS, e_lc, e_for, v_add, v_addS, v_addT, v_iadd, v_sub, v_mul, v_fdiv, v_mod, v_pow, v_shl, v_shr, v_neg, v_lt, v_le, v_gt, v_ge, v_eqI, v_neI, v_eqS, v_neS, v_inS, v_ninS, v_inT, v_ninT, v_inR, v_ninR, v_inSeq, v_seqO, v_seqR, v_seqT, v_seqL, v_ixR, v_ixT, v_ixL, v_ixS, v_atK, v_atSK, v_get, v_getL, v_getK, v_set, v_setL, v_setK, v_on1, v_on2, v_lenR, v_lenT, v_lenL, v_lenS, v_seqK, v_tuple, v_list, v_abs, v_intI, v_intB, v_okL, v_isLst, v_app, v_lstK, v_slS, v_slT, v_join, v_is, v_isnot, v_max, v_min, v_iSeq, v_srcT, v_srcL, v_srcS, v_srcR, v_srcO, v_iRg1, v_rg1, v_truN, v_truB, v_truI, v_truS, v_truR, v_truT, v_truRol, v_truL, v_inRol, v_ninRol, v_inO, v_inOd, v_inDic, v_ixO, v_ixOd, v_ixSeq, v_ixDic, v_dgetK, v_ixStr, v_getO, v_getOd, v_setO, v_setOd, v_setDic, v_lenO, v_lenOd, e_dic0, e_disp, e_pairs0, e_pairsS, e_chain, v_bits, v_iRg3, v_rg3, v_iRg2, v_rg2, v_iEn, v_enT, v_enR, v_enO, v_iZp, v_zpT, v_zpR, v_zpO, v_repr, v_strI, v_strS, v_addR, v_and, v_slR, v_slL, v_ltS, v_srtT, v_srtR, v_srtO, v_srtD, v_revR, v_revT, v_isB, v_iZs, v_zsT, v_eqIS, v_neIS, v_eqB, v_neB])
theorem isNone_opt {u : Option Str} : isNone (optD u) = u.isNone := by cases u <;> rfl
theorem fold_time : ∀ (L : List B1) (s : St Str), (L.foldl relax s).time = s.time + L.length
  | [], s => rfl
  | b :: L, s => by rw [List.foldl_cons, fold_time L, relax_time, List.length_cons]; omega
theorem passes_time (rows : List B1) (x0 : Str) : ∀ k, (passes rows (w0 x0) k).time = k * rows.length
  | 0 => by rw [Nat.zero_mul]; rfl
  | k + 1 => by
    show (pass rows (passes rows (w0 x0) k)).time = _
    unfold pass
    rw [fold_time, Nat.succ_mul]
    show (passes rows (w0 x0) k).time + _ = _
    rw [passes_time rows x0 k]
theorem SetH.clear {h0 hh : MH} {tl rl a1 a2 : Addr} {ts : List Str} {rows : List B1} {s : St Str} (H : SetH h0 tl rl a1 a2 ts rows s hh) : SetH h0 tl rl a1 a2 ts rows (clear s) hh := ⟨H.le_, H.t, H.r, H.n1, H.w, H.f, H.n0⟩
theorem mem_rowsF_len (B : List B1) (ts : List Str) : (rowsF B ts).length = B.length + 2 * ts.length := by unfold rowsF; rw [List.length_append, rgs_len]
theorem sat_settle : ∀ ds h Q, sp_settle ds h Q → rd_settle sp_terms_of sp_with_range sp_ring_from (endN Q) (startD 12 ds) h := by
  rintro ds h Q ⟨B, rfl, hB, q⟩
  show rd_settle sp_terms_of sp_with_range sp_ring_from (endN Q) [some (bsD B), none, none, none, none, none, none, none, none, none, none, none] h
  have tlen := terms_len B
  have hrows : (rowsF B (termsF B)).length ≤ 500 := by rw [mem_rowsF_len]; omega
  unfold rd_settle
  walk_at "ev"
  refine ⟨B, rfl, by omega, fun tl ntl => ?_⟩
  walk_at "ev"
  unfold rd_settle_1
  walk_at "ev"
  refine ⟨B, termsF B, tl, rfl, by omega, by omega, up_same, fun rl nrl => ?_⟩
  have tr : tl ≠ rl := nef up_same nrl
  have l1 : le h (up (up h tl (.lst ((termsF B).map D.str))) rl (.lst ((rowsF B (termsF B)).map bD))) := (le.up ntl).trans (le.up nrl)
  have et : up (up h tl (.lst ((termsF B).map D.str))) rl (.lst ((rowsF B (termsF B)).map bD)) tl = some (.lst ((termsF B).map D.str)) := by rw [up_ne tr, up_same]
  have er : up (up h tl (.lst ((termsF B).map D.str))) rl (.lst ((rowsF B (termsF B)).map bD)) rl = some (.lst ((rowsF B (termsF B)).map bD)) := up_same
  generalize up (up h tl (.lst ((termsF B).map D.str))) rl (.lst ((rowsF B (termsF B)).map bD)) = h0 at l1 et er
  walk_at "ev"
  unfold rd_settle_2
  walk_at "ev"
  refine ⟨rfl, by decide, fun a1 n1 => ?_⟩
  unfold rd_settle_3
  walk_at "ev"
  intro a2 n2
  have n12 : a1 ≠ a2 := nef up_same n2
  have n2' : h0 a2 = none := by rw [up_ne n12.symm] at n2; exact n2
  have t1 : a1 ≠ tl := (nef et n1).symm
  have r1 : a1 ≠ rl := (nef er n1).symm
  have t2 : a2 ≠ tl := (nef et n2').symm
  have r2 : a2 ≠ rl := (nef er n2').symm
  unfold rd_settle_4
  walk_at "ev"
  rw [up_ne t2.symm, up_ne t1.symm, et]
  walk_at "ev"
  rw [List.length_map]
  have e2 : ((termsF B).length : Int) + 2 = (((termsF B).length + 2 : Nat) : Int) := by omega
  rw [e2]
  refine ⟨bnd62 (by omega), ?_⟩
  have start : SetH h0 tl rl a1 a2 (termsF B) (rowsF B (termsF B)) (start (w0 Zs)) (up (up h0 a1 (.dic (dmerge [] [(.str (Str.ofString "0"), .int 0)]))) a2 (.dic [])) := by
    refine ⟨le_put (le_put le.refl n1) n2', by rw [up_ne t2.symm, up_ne t1.symm]; exact et, by rw [up_ne r2.symm, up_ne r1.symm]; exact er, ⟨t1, r1, t2, r2, n12⟩, ⟨_, by rw [up_ne n12, up_same], ?_, by decide⟩, ⟨_, up_same, DSt.nil.to fun x => rfl, by decide⟩, ⟨n1, n2'⟩⟩
    refine (DSt.nil.put Zs (.int 0)).to fun x => ?_
    show fup (fun _ => none) Zs (some (.int 0)) x = mp D.int (fup (fun _ => none) Zs (some 0)) x
    unfold mp fup; split <;> rfl
  refine ⟨fun i σ hh => ∃ x5 x6 x7 x8 x9 x10, SetH h0 tl rl a1 a2 (termsF B) (rowsF B (termsF B)) (passes (rowsF B (termsF B)) (w0 Zs) i) hh ∧ (0 < i → (passes (rowsF B (termsF B)) (w0 Zs) i).up ≠ none ∧ x6 = some (optD (passes (rowsF B (termsF B)) (w0 Zs) i).up)) ∧ settleGo (rowsF B (termsF B)) ((termsF B).length + 1) ((termsF B).length + 2 - i) i = settleF B ∧
    σ = [some (bsD B), some (.ref tl), some (.ref rl), some (.ref a1), some (.ref a2), x5, x6, x7, x8, x9, x10, none], Lw.of ⟨none, none, none, none, none, none, start, fun h => absurd h (by decide), rfl, rfl⟩, fun _ _ _ _ => trivial, ?_, ?_⟩
  · rintro i x σ hh hx ⟨x5, x6, x7, x8, x9, x10, H, _, hgo, rfl⟩
    obtain ⟨hi, rfl⟩ := rg_at hx
    have htime := passes_time (rowsF B (termsF B)) Zs i
    have htb : i * (rowsF B (termsF B)).length ≤ 202 * 500 := Nat.mul_le_mul (by omega) hrows
    walk_at "ev"
    unfold rd_settle_b1
    walk_at "ev"
    unfold rd_settle_b1_1
    walk_at "ev"
    rw [H.r]
    walk_at "ev"
    refine ⟨fun j σ hh => ∃ x7 x8 x9 x10, SetH h0 tl rl a1 a2 (termsF B) (rowsF B (termsF B)) (((rowsF B (termsF B)).take j).foldl relax (clear (passes (rowsF B (termsF B)) (w0 Zs) i))) hh ∧ σ = slS B tl rl a1 a2 (((rowsF B (termsF B)).take j).foldl relax (clear (passes (rowsF B (termsF B)) (w0 Zs) i))).up (some (.int (i : Nat))) x7 x8 x9 x10, Lw.of ⟨_, _, _, _, by rw [List.take_zero]; exact H.clear, rfl⟩, ?_, ?_, ?_⟩
    · rintro j σ hh ⟨_, _, _, _, H', _⟩
      exact H'.r
    · rintro j x σ hh hx ⟨y7, y8, y9, y10, H', rfl⟩
      rw [List.getElem?_map] at hx
      obtain ⟨b, hb, rfl⟩ := Option.map_eq_some_iff.mp hx
      obtain ⟨hj, eb⟩ := List.getElem?_eq_some_iff.mp hb
      have es : (rowsF B (termsF B)).take (j + 1) = (rowsF B (termsF B)).take j ++ [b] := by rw [List.take_succ_eq_append_getElem hj, eb]
      have ef : ((rowsF B (termsF B)).take (j + 1)).foldl relax (clear (passes (rowsF B (termsF B)) (w0 Zs) i)) = relax (((rowsF B (termsF B)).take j).foldl relax (clear (passes (rowsF B (termsF B)) (w0 Zs) i))) b := by rw [es, List.foldl_append]; rfl
      have ht : (((rowsF B (termsF B)).take j).foldl relax (clear (passes (rowsF B (termsF B)) (w0 Zs) i))).time < 1000000 := by
        rw [fold_time, List.length_take]
        show (passes (rowsF B (termsF B)) (w0 Zs) i).time + _ < _
        rw [htime]; omega
      unfold slS
      walk_at "ev"
      exact settle_turn H' ht fun hh' z8 z9 z10 H'' => Lw.of ⟨_, z8, z9, z10, by rw [ef]; exact H'', by rw [ef]; rfl⟩
    · rintro σ hh ⟨y7, y8, y9, y10, H', rfl⟩
      rw [List.length_map, List.take_length] at H'
      rw [List.length_map, List.take_length]
      have H' : SetH h0 tl rl a1 a2 (termsF B) (rowsF B (termsF B)) (passes (rowsF B (termsF B)) (w0 Zs) (i + 1)) hh := H'
      show rd_settle_b1_2 sp_terms_of sp_with_range sp_ring_from _ (slS B tl rl a1 a2 (passes (rowsF B (termsF B)) (w0 Zs) (i + 1)).up _ _ _ _ _) hh
      rw [show (termsF B).length + 2 - i = ((termsF B).length + 2 - (i + 1)) + 1 by omega, settleGo] at hgo
      unfold rd_settle_b1_2 slS
      walk_at "ev"
      rw [isNone_opt]
      cases c : (passes (rowsF B (termsF B)) (w0 Zs) (i + 1)).up with
      | none =>
        rw [if_pos c] at hgo
        rw [if_pos (by rfl)]
        rw [H'.t]
        walk_at "ev"
        obtain ⟨v, hv, _⟩ := still (ends_ok B) (x0 := Zs) (by simp) c
        obtain ⟨kw, ew, dw, _⟩ := H'.w
        refine lcT_t (termsF B) D.str (fun t => .tup [.str t, .int (((passes (rowsF B (termsF B)) (w0 Zs) (i + 1)).w t).getD 0)]) rfl (Nat.le_of_lt (sl_lt (by omega))) H'.t (fun t ht Q' hQ => ?_) fun p np => ?_
        · walk_at "ev"
          rw [ew]
          walk_at "ev"
          have et := hv t (List.mem_cons_of_mem _ ht)
          refine ⟨dw.fit t, ?_⟩
          rw [dw.get t, show mp D.int (passes (rowsF B (termsF B)) (w0 Zs) (i + 1)).w t = some (.int (v t)) by unfold mp; rw [et]; rfl]
          walk_at "ev"
          have := hQ _ le.refl
          rw [et] at this
          exact ⟨by show 2 ≤ sizeLine; decide, this⟩
        · walk_at "ev"
          rw [up_same]
          walk_at "ev"
          refine ⟨by show 2 ≤ sizeLine; decide, ?_⟩
          rw [← hgo] at q
          exact lh_le (l1.trans (H'.le_.trans (le.up np))) q
      | some r =>
        rw [if_neg (by rw [c]; intro z; cases z)] at hgo
        rw [if_neg (by simp)]
        exact Lw.of ⟨_, _, _, _, _, _, H', fun _ => ⟨by simp [c], by first | rfl | rw [c]⟩, hgo, rfl⟩
  · rintro σ hh ⟨x5, x6, x7, x8, x9, x10, H, hup, hgo, rfl⟩
    rw [rg_len] at H hup hgo
    obtain ⟨hne, rfl⟩ := hup (by omega)
    rw [Nat.sub_self, settleGo] at hgo
    cases c : (passes (rowsF B (termsF B)) (w0 Zs) ((termsF B).length + 2)).up with
    | none => exact absurd c hne
    | some r =>
      rw [c] at hgo
      obtain ⟨_, hF, hk⟩ := raised (ends_ok B) (x0 := Zs) (by simp) c
      obtain ⟨kf, ef, df, _⟩ := H.f
      walk_at "ev"
      unfold rd_settle_5
      walk_at "ev"
      rw [H.t]
      walk_at "ev"
      rw [List.length_map]
      have e1 : ((termsF B).length : Int) + 1 = (((termsF B).length + 1 : Nat) : Int) := by omega
      rw [e1]
      refine ⟨a2, kf, _, r, (termsF B).length + 1, rfl, by omega, ef, df, hF, hk, ?_⟩
      refine ⟨by show 2 ≤ sizeLine; decide, ?_⟩
      rw [← hgo] at q
      exact lh_le (l1.trans H.le_) q
end DL
namespace DL
open PySem PySem.Spec PyProof.Rows L2 BF
local macro_rules | `(tactic| walk_at "ev") => `(tactic| try simp only [e_seq, e_next, e_brk, e_cnt, e_drop, e_ret, e_retN, e_ifS, e_asg, e_gN, e_gSb, e_gTp, e_gCn, e_gNl, e_var, e_varK, e_nth0, e_nthS, e_put0, e_putS, e_c, e_op, e_un, e_call, e_nil, e_cons, e_tup, e_lst, e_test, e_asB, e_tru, e_andT, e_orT, e_notT, e_andV, e_orV, e_notV, e_if, e_aug, e_augS, e_sl, e_part, e_partK, e_noPart, e_bm0, e_bm, e_join, e_yes, e_wipe0, e_wipeS, e_lc, e_for, v_add, v_addS, v_addT, v_iadd, v_sub, v_mul, v_fdiv, v_mod, v_pow, v_shl, v_shr, v_neg, v_lt, v_le, v_gt, v_ge, v_eqI, v_neI, v_eqS, v_neS, v_inS, v_ninS, v_inT, v_ninT, v_inR, v_ninR, v_inSeq, v_seqO, v_seqR, v_seqT, v_seqL, v_ixR, v_ixT, v_ixL, v_ixS, v_atK, v_atSK, v_get, v_getL, v_getK, v_set, v_setL, v_setK, v_on1, v_on2, v_lenR, v_lenT, v_lenL, v_lenS, v_seqK, v_tuple, v_list, v_abs, v_intI, v_intB, v_okL, v_isLst, v_app, v_lstK, v_slS, v_slT, v_join, v_is, v_isnot, v_max, v_min, v_iSeq, v_srcT, v_srcL, v_srcS, v_srcR, v_srcO, v_iRg1, v_rg1, v_truN, v_truB, v_truI, v_truS, v_truR, v_truT, v_truRol, v_truL, v_inRol, v_ninRol, v_inO, v_inOd, v_inDic, v_ixO, v_ixOd, v_ixSeq, v_ixDic, v_dgetK, v_ixStr, v_getO, v_getOd, v_setO, v_setOd, v_setDic, v_lenO, v_lenOd, e_dic0, e_disp, e_pairs0, e_pairsS, e_chain, v_bits, v_iRg3, v_rg3, v_iRg2, v_rg2, v_iEn, v_enT, v_enR, v_enO, v_iZp, v_zpT, v_zpR, v_zpO, v_repr, v_strI, v_strS, v_addR, v_and, v_slR, v_slL, v_ltS, v_srtT, v_srtR, v_srtO, v_srtD, v_revR, v_revT, v_isB, v_iZs, v_zsT, v_eqIS, v_neIS, v_eqB, v_neB])
def isIntB : D → Bool
  | .int _ => true
  | _ => false
def sp__law_is_int : P1 := fun ds h Q => ∃ x : D, ds = [x] ∧ pure? 60 x = true ∧ Q (.bool (isIntB x)) h
theorem len__law_is_int : ∀ ds h Q, sp__law_is_int ds h Q → ds.length = 1 := fun ds h Q ⟨_, e, _⟩ => by rw [e]; rfl
theorem isi_pure {x : D} (p : pure? 60 x = true) {n : String} {b : Bool} (k : kitB (tyP x) n = some b) {h : MH} {Q : KD} : isiD x (.ty n) h Q = Q (.bool b) h := isi_eval (ty_pure p h) k
theorem sat__law_is_int : ∀ ds h Q, sp__law_is_int ds h Q → rd__law_is_int (endN Q) (startD 1 ds) h := by
  rintro ds h Q ⟨x, rfl, p, q⟩
  show rd__law_is_int (endN Q) [some x] h
  unfold rd__law_is_int
  walk_at "ev"
  have fin : ∀ b1 b2 : Bool, kitB (tyP x) "int" = some b1 → kitB (tyP x) "bool" = some b2 → (b1 && !b2) = isIntB x → isiD x (.ty "int") h (asB fun c h1 => if c = true then isiD x (.ty "bool") h1 (asB fun c h1 => (endN Q).rt (.bool (!c)) h1) else (endN Q).rt (.bool false) h1) := fun b1 b2 k1 k2 e => by
    rw [isi_pure p k1]
    cases b1 with
    | false =>
      have e : false = isIntB x := e
      rw [← e] at q
      rw [e_asB, if_neg (by decide)]
      exact lh_of q
    | true =>
      have e : (!b2) = isIntB x := e
      rw [← e] at q
      rw [e_asB, if_pos rfl, isi_pure p k2]
      exact lh_of q
  cases x with
  | none => exact fin false false (show kitB "NoneType" "int" = some false by decide) (show kitB "NoneType" "bool" = some false by decide) rfl
  | bool b => exact fin true true (show kitB "bool" "int" = some true by decide) (show kitB "bool" "bool" = some true by decide) rfl
  | int b => exact fin true false (show kitB "int" "int" = some true by decide) (show kitB "int" "bool" = some false by decide) rfl
  | str b => exact fin false false (show kitB "str" "int" = some false by decide) (show kitB "str" "bool" = some false by decide) rfl
  | tup b => exact fin false false (show kitB "tuple" "int" = some false by decide) (show kitB "tuple" "bool" = some false by decide) rfl
  | rol b => exact fin false false (show kitB "list" "int" = some false by decide) (show kitB "list" "bool" = some false by decide) rfl
  | ref b => simp [pure?] at p
  | ty b => simp [pure?] at p
theorem eqF_str {x y : Str} : eqF (.str x) (.str y) = decide (x = y) := by unfold eqF; simp only [pd, eqv_str]
theorem any_strs (t : Str) : ∀ acc : List Str, ((acc.map D.str).any fun z => eqF z (.str t)) = decide (t ∈ acc)
  | [] => rfl
  | x :: r => by
    rw [List.map_cons, List.any_cons, any_strs t r, eqF_str]
    by_cases z : x = t
    · simp [z]
    · have z2 : ¬ t = x := fun q => z q.symm
      simp [z, z2]
theorem bD_sl2 {b : B1} {h : MH} {Q : KD} : slD (bD b) none (some 2) h Q = Q (.tup [.str b.1, .str b.2.1]) h := rfl
def sp__law_terms : P1 := fun ds h Q => ∃ B : List B1, ds = [bsD B] ∧ B.length ≤ 1000 ∧ ∀ l, h l = none → Q (.ref l) (up h l (.lst ((termsF B).map D.str)))
theorem len__law_terms : ∀ ds h Q, sp__law_terms ds h Q → ds.length = 1 := fun ds h Q ⟨_, e, _⟩ => by rw [e]; rfl
theorem ddZ_len : ∀ (l acc : List Str), (l.foldl ddZ acc).length ≤ acc.length + l.length
  | [], acc => by simp
  | x :: l, acc => by
    have h1 := ddZ_len l (ddZ acc x)
    have h2 : (ddZ acc x).length ≤ acc.length + 1 := by unfold ddZ; split <;> simp
    rw [List.foldl_cons, List.length_cons]; omega
theorem sat__law_terms : ∀ ds h Q, sp__law_terms ds h Q → rd__law_terms (endN Q) (startD 4 ds) h := by
  rintro ds h Q ⟨B, rfl, hB, q⟩
  show rd__law_terms (endN Q) [some (bsD B), none, none, none] h
  unfold rd__law_terms
  walk_at "ev"
  refine ⟨by decide, fun fl nfl => ?_⟩
  unfold rd__law_terms_1
  walk_at "ev"
  show srcD (.tup (B.map bD)) _ _
  rw [v_srcT]
  refine ⟨fun i σ hh => ∃ x2 x3, hh = up h fl (.lst (((endsF (B.take i)).foldl ddZ []).map D.str)) ∧ σ = [some (bsD B), some (.ref fl), x2, x3], Lw.of ⟨none, none, rfl, rfl⟩, fun _ _ _ _ => trivial, ?_, ?_⟩
  · rintro i x σ hh hx ⟨x2, x3, rfl, rfl⟩
    rw [List.getElem?_map] at hx
    obtain ⟨⟨l, r, g⟩, hb, rfl⟩ := Option.map_eq_some_iff.mp hx
    obtain ⟨hi, eb⟩ := List.getElem?_eq_some_iff.mp hb
    have es : (endsF (B.take (i + 1))).foldl ddZ [] = ddZ (ddZ ((endsF (B.take i)).foldl ddZ []) l) r := by
      unfold endsF
      rw [List.take_succ_eq_append_getElem hi, List.flatMap_append, eb, List.foldl_append]; rfl
    have hlen : ((endsF (B.take i)).foldl ddZ []).length ≤ 2000 := by
      have := ddZ_len (endsF (B.take i)) []
      rw [ends_len, List.length_take] at this
      simp at this; omega
    walk_at "ev"
    unfold rd__law_terms_b1
    walk_at "ev"
    rw [es]
    generalize (endsF (B.take i)).foldl ddZ [] = acc at hlen
    rw [bD_sl2]
    walk_at "ev"
    have turn : ∀ (N : Nd) (t : Str) (ac : List Str), ac.length ≤ 2010 → N.nx [some (bsD B), some (.ref fl), some (bD (l, r, g)), some (.str t)] (up h fl (.lst ((ddZ ac t).map D.str))) → rd__law_terms_b2 N [some (bsD B), some (.ref fl), some (bD (l, r, g)), some (.str t)] (up h fl (.lst (ac.map D.str))) := fun N t ac hac nx => by
      unfold rd__law_terms_b2
      walk_at "ev"
      by_cases c1 : t = Zs
      · rw [decide_eq_true (show t = Str.ofString "0" from c1)]
        simp only [Bool.not_true, Bool.false_eq_true, if_false]
        unfold ddZ at nx
        rw [if_neg (fun z => z.1 c1)] at nx
        exact nx
      · rw [decide_eq_false (show ¬ t = Str.ofString "0" from c1)]
        simp only [Bool.not_false, if_true]
        rw [up_same, v_inO, v_inSeq]
        refine ⟨by simp [pure?], pures_strs _ _, ?_⟩
        rw [any_strs]
        by_cases c2 : t ∈ ac
        · rw [decide_eq_true c2, if_neg (by decide)]
          unfold ddZ at nx
          rw [if_neg (fun z => z.2 c2)] at nx
          exact nx
        · rw [decide_eq_false c2, if_pos (by decide)]
          unfold ddZ at nx
          rw [if_pos ⟨c1, c2⟩, List.map_append] at nx
          walk_at "ev"
          refine ⟨trivial, sl_lt (by rw [List.length_map]; omega), ?_⟩
          rw [up_up]
          exact nx
    refine ⟨fun j σ hh => ∃ x3, ((j = 0 ∧ hh = up h fl (.lst (acc.map D.str))) ∨ (j = 1 ∧ hh = up h fl (.lst ((ddZ acc l).map D.str))) ∨ (j = 2 ∧ hh = up h fl (.lst ((ddZ (ddZ acc l) r).map D.str)))) ∧ σ = [some (bsD B), some (.ref fl), some (bD (l, r, g)), x3], Lw.of ⟨_, .inl ⟨rfl, rfl⟩, rfl⟩, fun _ _ _ _ => trivial, ?_, ?_⟩
    · rintro j x σ hh hx ⟨y3, st, rfl⟩
      have hd : (ddZ acc l).length ≤ acc.length + 1 := by unfold ddZ; split <;> simp
      rcases st with ⟨rfl, rfl⟩ | ⟨rfl, rfl⟩ | ⟨rfl, rfl⟩
      · cases hx
        walk_at "ev"
        exact turn _ l acc (by omega) (Lw.of ⟨_, .inr (.inl ⟨by trivial, rfl⟩), rfl⟩)
      · cases hx
        walk_at "ev"
        exact turn _ r _ (by omega) (Lw.of ⟨_, .inr (.inr ⟨by trivial, rfl⟩), rfl⟩)
      · cases hx
    · rintro σ hh ⟨y3, st, rfl⟩
      rcases st with ⟨z, _⟩ | ⟨z, _⟩ | ⟨_, rfl⟩
      · cases z
      · cases z
      · exact Lw.of ⟨_, _, rfl, rfl⟩
  · rintro σ hh ⟨x2, x3, rfl, rfl⟩
    rw [List.length_map, List.take_length]
    have hlen : ((endsF B).foldl ddZ []).length ≤ 2000 := by
      have := ddZ_len (endsF B) []
      rw [ends_len] at this
      simp at this; omega
    unfold rd__law_terms_2
    walk_at "ev"
    rw [up_same]
    walk_at "ev"
    refine ⟨pures_strs _ _, alike_strs _, sorts_strs _, by rw [List.length_map]; exact Nat.le_of_lt (sl_lt (by omega)), fun ys p hp hs np => ?_⟩
    rw [sorted_strs hp hs, terms_ddZ]
    have fp : fl ≠ p := nef up_same np
    refine lh_le (le.up2 (le.up nfl)) (q p ?_)
    rw [up_ne fp.symm] at np; exact np
end DL
namespace DL
open PySem PySem.Spec PyProof.Rows L2 BF
local macro_rules | `(tactic| walk_at "ev") => `(tactic| try simp only [e_seq, e_next, e_brk, e_cnt, e_drop, e_ret, e_retN, e_ifS, e_asg, e_gN, e_gSb, e_gTp, e_gCn, e_gNl, e_var, e_varK, e_nth0, e_nthS, e_put0, e_putS, e_c, e_op, e_un, e_call, e_nil, e_cons, e_tup, e_lst, e_test, e_asB, e_tru, e_andT, e_orT, e_notT, e_andV, e_orV, e_notV, e_if, e_aug, e_augS, e_sl, e_part, e_partK, e_noPart, e_bm0, e_bm, e_join, e_yes, e_wipe0, e_wipeS, e_lc, e_for, v_add, v_addS, v_addT, v_iadd, v_sub, v_mul, v_fdiv, v_mod, v_pow, v_shl, v_shr, v_neg, v_lt, v_le, v_gt, v_ge, v_eqI, v_neI, v_eqS, v_neS, v_inS, v_ninS, v_inT, v_ninT, v_inR, v_ninR, v_inSeq, v_seqO, v_seqR, v_seqT, v_seqL, v_ixR, v_ixT, v_ixL, v_ixS, v_atK, v_atSK, v_get, v_getL, v_getK, v_set, v_setL, v_setK, v_on1, v_on2, v_lenR, v_lenT, v_lenL, v_lenS, v_seqK, v_tuple, v_list, v_abs, v_intI, v_intB, v_okL, v_isLst, v_app, v_lstK, v_slS, v_slT, v_join, v_is, v_isnot, v_max, v_min, v_iSeq, v_srcT, v_srcL, v_srcS, v_srcR, v_srcO, v_iRg1, v_rg1, v_truN, v_truB, v_truI, v_truS, v_truR, v_truT, v_truRol, v_truL, v_inRol, v_ninRol, v_inO, v_inOd, v_inDic, v_ixO, v_ixOd, v_ixSeq, v_ixDic, v_dgetK, v_ixStr, v_getO, v_getOd, v_setO, v_setOd, v_setDic, v_lenO, v_lenOd, e_dic0, e_disp, e_pairs0, e_pairsS, e_chain, v_bits, v_iRg3, v_rg3, v_iRg2, v_rg2, v_iEn, v_enT, v_enR, v_enO, v_iZp, v_zpT, v_zpR, v_zpO, v_repr, v_strI, v_strS, v_addR, v_and, v_slR, v_slL, v_ltS, v_srtT, v_srtR, v_srtO, v_srtD, v_revR, v_revT, v_isB, v_iZs, v_zsT, v_eqIS, v_neIS, v_eqB, v_neB])
def sp__law_ranged : P1 := fun ds h Q => ∃ B : List B1, ds = [bsD B] ∧ B.length ≤ 1000 ∧ ∀ l, h l = none → Q (.ref l) (up h l (.lst ((rowsF B (termsF B)).map bD)))
theorem len__law_ranged : ∀ ds h Q, sp__law_ranged ds h Q → ds.length = 1 := fun ds h Q ⟨_, e, _⟩ => by rw [e]; rfl
theorem sat__law_ranged : ∀ ds h Q, sp__law_ranged ds h Q → rd__law_ranged sp__law_terms (endN Q) (startD 3 ds) h := by
  rintro ds h Q ⟨B, rfl, hB, q⟩
  show rd__law_ranged sp__law_terms (endN Q) [some (bsD B), none, none] h
  have hts := terms_len B
  unfold rd__law_ranged
  walk_at "ev"
  show seqK _ (some (B.map bD))
  walk_at "ev"
  intro fd nfd
  unfold rd__law_ranged_1
  walk_at "ev"
  refine ⟨B, rfl, hB, fun tl ntl => ?_⟩
  have ft : fd ≠ tl := nef up_same ntl
  have ntl' : h tl = none := by rw [up_ne ft.symm] at ntl; exact ntl
  walk_at "ev"
  rw [up_same]
  walk_at "ev"
  have e0 : up (up h fd (.lst (B.map bD))) tl (.lst ((termsF B).map D.str)) = up (up h tl (.lst ((termsF B).map D.str))) fd (.lst ((rowsF B ((termsF B).take 0)).map bD)) := by
    rw [up_com ft]; unfold rowsF rgs; simp
  rw [e0]
  have et : ∀ o, up (up h tl (.lst ((termsF B).map D.str))) fd o tl = some (.lst ((termsF B).map D.str)) := fun o => by rw [up_ne ft.symm, up_same]
  refine ⟨fun i σ hh => hh = up (up h tl (.lst ((termsF B).map D.str))) fd (.lst ((rowsF B ((termsF B).take i)).map bD)) ∧ ∃ x, σ = [some (bsD B), some (.ref fd), x], Lw.of ⟨rfl, _, rfl⟩, fun i σ hh e => by rw [e.1]; exact et _, ?_, ?_⟩
  · rintro i x σ hh hx ⟨rfl, u, rfl⟩
    rw [List.getElem?_map] at hx
    obtain ⟨t, ht, rfl⟩ := Option.map_eq_some_iff.mp hx
    obtain ⟨hi, et'⟩ := List.getElem?_eq_some_iff.mp ht
    have hlen : (rowsF B ((termsF B).take i)).length ≤ 8000 := by
      rw [mem_rowsF_len, List.length_take]; omega
    walk_at "ev"
    unfold rd__law_ranged_b1
    walk_at "ev"
    rw [up_same]
    walk_at "ev"
    refine ⟨trivial, by show 3 ≤ sizeLine; decide, sl_lt (by rw [List.length_map]; omega), ?_⟩
    unfold rd__law_ranged_b1_1
    walk_at "ev"
    rw [up_same]
    walk_at "ev"
    refine ⟨trivial, by show 3 ≤ sizeLine; decide, sl_lt (by rw [List.length_append, List.length_map]; simp; omega), Lw.of ⟨?_, _, rfl⟩⟩
    have e : (rowsF B ((termsF B).take (i + 1))).map bD = ((rowsF B ((termsF B).take i)).map bD ++ [.tup [.str (Str.ofString "0"), .str t, .int 0]]) ++ [.tup [.str t, .str (Str.ofString "0"), .int 9999]] := by
      unfold rowsF rgs
      rw [List.take_succ_eq_append_getElem hi, List.flatMap_append, et', List.map_append, List.map_append, List.map_append]
      simp [bD, Zs]
    rw [up_up, up_up, e]
  · rintro σ hh ⟨rfl, u, rfl⟩
    rw [List.length_map, List.take_length]
    walk_at "ev"
    unfold rd__law_ranged_2
    walk_at "ev"
    exact lh_le (le.up2 (le.up ntl')) (q fd nfd)
/-! least worths, by the law's own raising -/
structure LwH (h0 : MH) (rl a1 : Addr) (rows : List B1) (n : Nat) (s : St Str) (hh : MH) : Prop where
  le_ : le h0 hh
  r : hh rl = some (.lst (rows.map bD))
  n1 : a1 ≠ rl
  w : ∃ kvs, hh a1 = some (.dic kvs) ∧ DSt kvs (mp D.int s.w) ∧ kvs.length = n
  n0 : h0 a1 = none
theorem LwH.clear {h0 hh : MH} {rl a1 : Addr} {rows : List B1} {n : Nat} {s : St Str} (H : LwH h0 rl a1 rows n s hh) : LwH h0 rl a1 rows n (clear s) hh := ⟨H.le_, H.r, H.n1, H.w, H.n0⟩
def slLw (B : List B1) (rl a1 : Addr) (u : Option Str) (x3 x4 x6 x7 x8 : Option D) : Sl := [some (bsD B), some (.ref rl), some (.ref a1), x3, x4, some (.bool u.isSome), x6, x7, x8]
theorem lw_turn {p1 p2 : P1} {N : Nd} {B : List B1} {h0 hh : MH} {rl a1 : Addr} {rows : List B1} {n : Nat} {s : St Str} {x3 x4 : Option D} {l r : Str} {g y x : Int} (H : LwH h0 rl a1 rows n s hh) (hn : n < 1000000) (hy : s.w l = some y) (hx : s.w r = some x)
    (fin : ∀ hh', LwH h0 rl a1 rows n (relax s (l, r, g)) hh' → N.nx (slLw B rl a1 (relax s (l, r, g)).up x3 x4 (some (.str l)) (some (.str r)) (some (.int g))) hh') :
    rd__law_least_worths_b3 p1 p2 N (slLw B rl a1 s.up x3 x4 (some (.str l)) (some (.str r)) (some (.int g))) hh := by
  obtain ⟨kw, ew, dw, lw⟩ := H.w
  have el : mp D.int s.w l = some (.int y) := by unfold mp; rw [hy]; rfl
  have er : mp D.int s.w r = some (.int x) := by unfold mp; rw [hx]; rfl
  have ixl : ∀ {h : MH} {Q : KD}, ixDic kw (.str l) h Q = Q (.int y) h := fun {_ _} => dic_ix dw el
  have ixr : ∀ {h : MH} {Q : KD}, ixDic kw (.str r) h Q = Q (.int x) h := fun {_ _} => dic_ix dw er
  unfold rd__law_least_worths_b3 slLw
  walk_at "ev"
  rw [ew]
  walk_at "ev"
  rw [← v_ixDic, ixl]
  walk_at "ev"
  rw [ew]
  walk_at "ev"
  rw [← v_ixDic, ixr]
  walk_at "ev"
  by_cases c : x < y - g
  · rw [decide_eq_true c, if_pos (by trivial), ew]
    walk_at "ev"
    rw [← v_ixDic, ixl]
    walk_at "ev"
    rw [ew]
    walk_at "ev"
    have rl' : relax s (l, r, g) = ⟨fup s.w r (some (y - g)), fup s.fr r (some (l, r, g)), some r, s.time + 1, fup s.stamp r (s.time + 1)⟩ := by
      unfold relax
      simp only [hy, hx]
      rw [if_pos (show less y g (some x) = true from decide_eq_true c)]
    have len : (dset kw (.str r) (.int (y - g))).length = n := by
      unfold dset
      rw [dw.get r, er, if_pos (by rfl), List.length_map, lw]
    have := fin (up hh a1 (.dic (dset kw (.str r) (.int (y - g))))) (by
      rw [rl']
      refine ⟨le_put H.le_ H.n0, by rw [up_ne H.n1.symm]; exact H.r, H.n1, ⟨_, up_same, (dw.put r (.int (y - g))).to fun z => ?_, len⟩, H.n0⟩
      show fup (mp D.int s.w) r (some (.int (y - g))) z = mp D.int (fup s.w r (some (y - g))) z
      unfold mp fup; split <;> rfl)
    rw [rl'] at this
    exact ⟨dw.fit r, sl_lt (by omega), this⟩
  · rw [decide_eq_false c, if_neg (by decide)]
    have rl' : relax s (l, r, g) = { s with time := s.time + 1 } := by
      unfold relax
      simp only [hy, hx]
      rw [if_neg (show ¬ less y g (some x) = true from fun z => c (of_decide_eq_true z))]
    have := fin hh (by rw [rl']; exact ⟨H.le_, H.r, H.n1, ⟨kw, ew, dw, lw⟩, H.n0⟩)
    rw [rl'] at this
    exact this
def LeastS (B : List B1) (s : Str → Int) : Prop := Sol B s ∧ ∀ s', Sol B s' → ∀ x, s x ≤ s' x
def sp__law_least_worths : P1 := fun ds h Q => ∃ B : List B1, ds = [bsD B] ∧ B.length ≤ 150 ∧ (∀ (p : Addr) (kvs : Kvs) (s : Str → Int) (f : Str → Option Int), h p = none → LeastS B s → DSt kvs (mp D.int f) → (∀ x ∈ Zs :: termsF B, f x = some (s x)) → kvs.length = (termsF B).length + 1 → Q (.ref p) (up h p (.dic kvs))) ∧ ((¬ ∃ s, Sol B s) → Q .none h)
theorem len__law_least_worths : ∀ ds h Q, sp__law_least_worths ds h Q → ds.length = 1 := fun ds h Q ⟨_, e, _⟩ => by rw [e]; rfl
theorem foldw_some {rows : List B1} : ∀ (L : List B1) (s : St Str) (x : Str) (y : Int), s.w x = some y → ∃ z, (L.foldl relax s).w x = some z
  | [], s, x, y, h => ⟨y, h⟩
  | b :: L, s, x, y, h => by
    have : ∃ z, (relax s b).w x = some z := by
      obtain ⟨l, r, g⟩ := b
      unfold relax
      cases hl : s.w l with
      | none => exact ⟨y, h⟩
      | some u =>
        show ∃ z, (if less u g (s.w r) = true then _ else _ : St Str).w x = some z
        split
        · show ∃ z, fup s.w r (some (u - g)) x = some z
          by_cases c : x = r
          · subst c; exact ⟨_, fup_same⟩
          · rw [fup_ne c]; exact ⟨y, h⟩
        · exact ⟨y, h⟩
    obtain ⟨z, hz⟩ := this
    exact foldw_some (rows := rows) L _ x z hz
theorem sat__law_least_worths : ∀ ds h Q, sp__law_least_worths ds h Q → rd__law_least_worths sp__law_ranged sp__law_terms (endN Q) (startD 9 ds) h := by
  rintro ds h Q ⟨B, rfl, hB, q1, q2⟩
  show rd__law_least_worths sp__law_ranged sp__law_terms (endN Q) [some (bsD B), none, none, none, none, none, none, none, none] h
  have hts := terms_len B
  have tnd := terms_nodup B
  have tz : Zs ∉ termsF B := fun z => (terms_mem.mp z).1 rfl
  have ends := ends_ok B
  have hrows : (rowsF B (termsF B)).length ≤ 800 := by rw [mem_rowsF_len]; omega
  unfold rd__law_least_worths
  walk_at "ev"
  refine ⟨B, rfl, by omega, fun rl nrl => ?_⟩
  walk_at "ev"
  unfold rd__law_least_worths_1
  walk_at "ev"
  refine ⟨rfl, by decide, fun a1 n1 => ?_⟩
  unfold rd__law_least_worths_2
  walk_at "ev"
  refine ⟨B, rfl, by omega, fun tl ntl => ?_⟩
  have ra : rl ≠ a1 := nef up_same n1
  have at' : a1 ≠ tl := nef up_same ntl
  have rt : rl ≠ tl := nef (show up (up h rl _) a1 _ rl = _ by rw [up_ne ra, up_same]) ntl
  have n1' : h a1 = none := by rw [up_ne ra.symm] at n1; exact n1
  walk_at "ev"
  rw [up_same]
  walk_at "ev"
  have ntl' : h tl = none := by rw [up_ne at'.symm, up_ne rt.symm] at ntl; exact ntl
  generalize hh0 : up (up h rl (.lst ((rowsF B (termsF B)).map bD))) tl (.lst ((termsF B).map D.str)) = h0
  have l0 : le h h0 := by rw [← hh0]; exact (le.up nrl).trans (le.up (by rw [up_ne rt.symm]; exact ntl'))
  have er : h0 rl = some (.lst ((rowsF B (termsF B)).map bD)) := by rw [← hh0, up_ne rt, up_same]
  have et : h0 tl = some (.lst ((termsF B).map D.str)) := by rw [← hh0, up_same]
  have na : h0 a1 = none := by rw [← hh0, up_ne at', up_ne ra.symm]; exact n1'
  have e0 : up (up (up h rl (.lst ((rowsF B (termsF B)).map bD))) a1 (.dic (dmerge [] [(.str (Str.ofString "0"), .int 0)]))) tl (.lst ((termsF B).map D.str)) = up h0 a1 (.dic (dmerge [] [(.str Zs, .int 0)])) := by
    rw [← hh0, up_com at']; rfl
  rw [e0]
  refine ⟨fun i σ hh => ∃ kvs x3, hh = up h0 a1 (.dic kvs) ∧ Keys kvs (Zs :: (termsF B).take i) ∧ DSt kvs (mp D.int (w00 ((termsF B).take i))) ∧ σ = [some (bsD B), some (.ref rl), some (.ref a1), x3, none, none, none, none, none], Lw.of ⟨_, none, rfl, ⟨rfl⟩, ?_, rfl⟩, fun i σ hh ⟨_, _, e, _⟩ => by rw [e]; show up h0 a1 _ tl = _; rw [up_ne at'.symm]; exact et, ?_, ?_⟩
  · refine (DSt.nil.put Zs (.int 0)).to fun x => ?_
    unfold mp fup w00
    rw [List.take_zero]
    by_cases z : x = Zs
    · rw [if_pos z, if_pos (by rw [z]; simp)]; rfl
    · rw [if_neg z, if_neg (by simpa using z)]; rfl
  · rintro i x σ hh hx ⟨kvs, x3, rfl, K, d, rfl⟩
    rw [List.getElem?_map] at hx
    obtain ⟨t, ht, rfl⟩ := Option.map_eq_some_iff.mp hx
    obtain ⟨hi, et'⟩ := List.getElem?_eq_some_iff.mp ht
    have es : (termsF B).take (i + 1) = (termsF B).take i ++ [t] := by rw [List.take_succ_eq_append_getElem hi, et']
    have tn : t ∉ Zs :: (termsF B).take i := by
      intro z
      rcases List.mem_cons.mp z with z | z
      · exact tz (by rw [← z]; exact List.mem_of_getElem? ht)
      · have nd2 := tnd.sublist (List.take_sublist (i + 1) (termsF B))
        rw [es, List.nodup_append] at nd2
        exact nd2.2.2 t z t (by simp) rfl
    walk_at "ev"
    unfold rd__law_least_worths_b1
    walk_at "ev"
    rw [up_same]
    walk_at "ev"
    refine ⟨d.fit t, sl_lt (by rw [K.len, List.length_cons, List.length_take]; omega), Lw.of ⟨_, _, up_up, ?_, ?_, rfl⟩⟩
    · have := K.put t (.int 0)
      unfold ddS at this
      rw [if_neg tn] at this
      rw [es]
      exact this
    · refine (d.put t (.int 0)).to fun x => ?_
      rw [es]
      unfold mp fup w00
      by_cases z : x = t
      · rw [if_pos z, if_pos (by rw [z]; simp)]; rfl
      · rw [if_neg z]
        have : (x ∈ Zs :: ((termsF B).take i ++ [t])) ↔ (x ∈ Zs :: (termsF B).take i) := by simp [z]
        simp only [this]
  · rintro σ hh ⟨kvs, x3, rfl, K, d, rfl⟩
    rw [List.length_map, List.take_length] at K d
    walk_at "ev"
    unfold rd__law_least_worths_3
    walk_at "ev"
    rw [up_same]
    walk_at "ev"
    have kl : kvs.length = (termsF B).length + 1 := by rw [K.len]; rfl
    rw [kl]
    have e1 : (((termsF B).length + 1 : Nat) : Int) + 1 = (((termsF B).length + 2 : Nat) : Int) := by omega
    rw [e1]
    refine ⟨bnd62 (by omega), ?_⟩
    have H0 : LwH h0 rl a1 (rowsF B (termsF B)) ((termsF B).length + 1) (passes (rowsF B (termsF B)) (w00 (termsF B)) 0) (up h0 a1 (.dic kvs)) := ⟨le_put le.refl na, by rw [up_ne ra]; exact er, ra.symm, ⟨kvs, up_same, d, kl⟩, na⟩
    refine ⟨fun i σ hh => ∃ x3 x4 x5 x6 x7 x8, LwH h0 rl a1 (rowsF B (termsF B)) ((termsF B).length + 1) (passes (rowsF B (termsF B)) (w00 (termsF B)) i) hh ∧ (0 < i → (passes (rowsF B (termsF B)) (w00 (termsF B)) i).up ≠ none) ∧ σ = [some (bsD B), some (.ref rl), some (.ref a1), x3, x4, x5, x6, x7, x8], Lw.of ⟨_, _, _, _, _, _, H0, fun h => absurd h (by decide), rfl⟩, fun _ _ _ _ => trivial, ?_, ?_⟩
    · rintro i x σ hh hx ⟨x3, x4, x5, x6, x7, x8, H, _, rfl⟩
      obtain ⟨hi, rfl⟩ := rg_at hx
      walk_at "ev"
      unfold rd__law_least_worths_b2
      walk_at "ev"
      unfold rd__law_least_worths_b2_1
      walk_at "ev"
      rw [H.r]
      walk_at "ev"
      refine ⟨fun j σ hh => ∃ x6 x7 x8, LwH h0 rl a1 (rowsF B (termsF B)) ((termsF B).length + 1) (((rowsF B (termsF B)).take j).foldl relax (clear (passes (rowsF B (termsF B)) (w00 (termsF B)) i))) hh ∧ σ = slLw B rl a1 (((rowsF B (termsF B)).take j).foldl relax (clear (passes (rowsF B (termsF B)) (w00 (termsF B)) i))).up x3 (some (.int (i : Nat))) x6 x7 x8, Lw.of ⟨_, _, _, by rw [List.take_zero]; exact H.clear, rfl⟩, ?_, ?_, ?_⟩
      · rintro j σ hh ⟨_, _, _, H', _⟩
        exact H'.r
      · rintro j x σ hh hx ⟨y6, y7, y8, H', rfl⟩
        rw [List.getElem?_map] at hx
        obtain ⟨⟨l, r, g⟩, hb, rfl⟩ := Option.map_eq_some_iff.mp hx
        obtain ⟨hj, eb⟩ := List.getElem?_eq_some_iff.mp hb
        have es : (rowsF B (termsF B)).take (j + 1) = (rowsF B (termsF B)).take j ++ [(l, r, g)] := by rw [List.take_succ_eq_append_getElem hj, eb]
        have ef : ((rowsF B (termsF B)).take (j + 1)).foldl relax (clear (passes (rowsF B (termsF B)) (w00 (termsF B)) i)) = relax (((rowsF B (termsF B)).take j).foldl relax (clear (passes (rowsF B (termsF B)) (w00 (termsF B)) i))) (l, r, g) := by rw [es, List.foldl_append]; rfl
        obtain ⟨ml, mr⟩ := row_ends ends l r g (List.mem_of_getElem? hb)
        obtain ⟨yl, hyl, _⟩ := all00 ends i l ml
        obtain ⟨yr, hyr, _⟩ := all00 ends i r mr
        obtain ⟨zl, hzl⟩ := foldw_some (rows := []) ((rowsF B (termsF B)).take j) (clear (passes (rowsF B (termsF B)) (w00 (termsF B)) i)) l yl hyl
        obtain ⟨zr, hzr⟩ := foldw_some (rows := []) ((rowsF B (termsF B)).take j) (clear (passes (rowsF B (termsF B)) (w00 (termsF B)) i)) r yr hyr
        show gTp 3 _ (.tup [.str l, .str r, .int g]) _ _ _
        unfold slLw
        walk_at "ev"
        refine ⟨by trivial, ?_⟩
        exact lw_turn H' (by omega) hzl hzr fun hh' H'' => Lw.of ⟨some (.str l), some (.str r), some (.int g), by rw [ef]; exact H'', by rw [ef]; rfl⟩
      · rintro σ hh ⟨y6, y7, y8, H', rfl⟩
        rw [List.length_map, List.take_length] at H'
        rw [List.length_map, List.take_length]
        have H' : LwH h0 rl a1 (rowsF B (termsF B)) ((termsF B).length + 1) (passes (rowsF B (termsF B)) (w00 (termsF B)) (i + 1)) hh := H'
        show rd__law_least_worths_b2_2 sp__law_ranged sp__law_terms _ (slLw B rl a1 (passes (rowsF B (termsF B)) (w00 (termsF B)) (i + 1)).up _ _ _ _ _) hh
        obtain ⟨kw, ew, dw, lw⟩ := H'.w
        obtain ⟨yz, hyz, hyz0⟩ := all00 ends (i + 1) Zs (by simp)
        have ixz : ∀ {h : MH} {Q : KD}, ixDic kw (.str (Str.ofString "0")) h Q = Q (.int yz) h := fun {_ _} => dic_ix dw (x := Zs) (by unfold mp; rw [hyz]; rfl)
        unfold rd__law_least_worths_b2_2 slLw
        walk_at "ev"
        rw [ew]
        walk_at "ev"
        rw [← v_ixDic, ixz]
        walk_at "ev"
        by_cases c : 0 < yz
        · rw [decide_eq_true c, if_pos (by trivial)]
          exact lh_le (l0.trans H'.le_) (q2 (over00 hyz c))
        · rw [decide_eq_false c, if_neg (by decide)]
          unfold rd__law_least_worths_b2_3
          walk_at "ev"
          cases cu : (passes (rowsF B (termsF B)) (w00 (termsF B)) (i + 1)).up with
          | none =>
            rw [if_pos (by rfl)]
            obtain ⟨s, S, hs, least⟩ := still00 ends cu hyz c
            have ha : h a1 = none := n1'
            have eh : up hh a1 (.dic kw) = hh := up_id ew
            rw [← eh]
            exact lh_le (le.up2 (l0.trans H'.le_)) (q1 a1 kw s _ ha ⟨S, least⟩ dw hs lw)
          | some r =>
            rw [if_neg (by simp)]
            exact Lw.of ⟨_, _, _, _, _, _, H', fun _ => by simp [cu], rfl⟩
    · rintro σ hh ⟨x3, x4, x5, x6, x7, x8, H, hup, rfl⟩
      rw [rg_len] at H hup
      walk_at "ev"
      unfold rd__law_least_worths_4
      walk_at "ev"
      exact lh_le (l0.trans H.le_) (q2 (raised00 ends (hup (by omega))))
end DL
namespace DL
open PySem PySem.Spec PyProof.Rows L2 BF
local macro_rules | `(tactic| walk_at "ev") => `(tactic| try simp only [e_seq, e_next, e_brk, e_cnt, e_drop, e_ret, e_retN, e_ifS, e_asg, e_gN, e_gSb, e_gTp, e_gCn, e_gNl, e_var, e_varK, e_nth0, e_nthS, e_put0, e_putS, e_c, e_op, e_un, e_call, e_nil, e_cons, e_tup, e_lst, e_test, e_asB, e_tru, e_andT, e_orT, e_notT, e_andV, e_orV, e_notV, e_if, e_aug, e_augS, e_sl, e_part, e_partK, e_noPart, e_bm0, e_bm, e_join, e_yes, e_wipe0, e_wipeS, e_lc, e_for, v_add, v_addS, v_addT, v_iadd, v_sub, v_mul, v_fdiv, v_mod, v_pow, v_shl, v_shr, v_neg, v_lt, v_le, v_gt, v_ge, v_eqI, v_neI, v_eqS, v_neS, v_inS, v_ninS, v_inT, v_ninT, v_inR, v_ninR, v_inSeq, v_seqO, v_seqR, v_seqT, v_seqL, v_ixR, v_ixT, v_ixL, v_ixS, v_atK, v_atSK, v_get, v_getL, v_getK, v_set, v_setL, v_setK, v_on1, v_on2, v_lenR, v_lenT, v_lenL, v_lenS, v_seqK, v_tuple, v_list, v_abs, v_intI, v_intB, v_okL, v_isLst, v_app, v_lstK, v_slS, v_slT, v_join, v_is, v_isnot, v_max, v_min, v_iSeq, v_srcT, v_srcL, v_srcS, v_srcR, v_srcO, v_iRg1, v_rg1, v_truN, v_truB, v_truI, v_truS, v_truR, v_truT, v_truRol, v_truL, v_inRol, v_ninRol, v_inO, v_inOd, v_inDic, v_ixO, v_ixOd, v_ixSeq, v_ixDic, v_dgetK, v_ixStr, v_getO, v_getOd, v_setO, v_setOd, v_setDic, v_lenO, v_lenOd, e_dic0, e_disp, e_pairs0, e_pairsS, e_chain, v_bits, v_iRg3, v_rg3, v_iRg2, v_rg2, v_iEn, v_enT, v_enR, v_enO, v_iZp, v_zpT, v_zpR, v_zpO, v_repr, v_strI, v_strS, v_addR, v_and, v_slR, v_slL, v_ltS, v_srtT, v_srtR, v_srtO, v_srtD, v_revR, v_revT, v_isB, v_iZs, v_zsT, v_eqIS, v_neIS, v_eqB, v_neB])
theorem chain_get {t0 : Str} : ∀ {r : List B1} {x : Str}, Chain t0 x r → (∀ (i : Nat) (b c : B1), r[i]? = some b → r[i + 1]? = some c → c.2.1 = b.1) ∧ (∀ b, r[0]? = some b → b.2.1 = x) ∧ (∀ b, r[r.length - 1]? = some b → b.1 = t0) ∧ 0 < r.length
  | [], x, h => h.elim
  | [b], x, ⟨h1, h2⟩ => ⟨fun i c d h1 h2 => by simp at h2, fun c h => by cases h; exact h1, fun c h => by cases h; exact h2, by simp⟩
  | b :: c :: r, x, ⟨h1, h2⟩ => by
    obtain ⟨a1, a2, a3, a4⟩ := chain_get h2
    refine ⟨fun i d e h3 h4 => ?_, fun d h => by cases h; exact h1, fun d h => a3 d h, by simp⟩
    cases i with
    | zero => cases h3; exact a2 e h4
    | succ i => exact a1 i d e h3 h4
/-- the ring as it is told -/
structure RingD (B : List B1) (R : List B1) : Prop where
  mem : ∀ b ∈ R, b ∈ rowsF B (termsF B)
  ne : 0 < R.length
  nx : ∀ (k : Nat) (b : B1), R[k]? = some b → ∃ c, R[if k + 1 < R.length then k + 1 else 0]? = some c ∧ b.2.1 = c.1
  sum : (R.map (·.2.2)).sum < 0
theorem ringD_of {B : List B1} {r : List B1} (h : RingOk (rowsF B (termsF B)) r) : RingD B r.reverse := by
  obtain ⟨t0, c⟩ := h.ch
  obtain ⟨c1, c2, c3, c4⟩ := chain_get c
  refine ⟨fun b hb => h.mem b (List.mem_reverse.mp hb), by rw [List.length_reverse]; exact c4, fun k b hk => ?_, ?_⟩
  · have hk' : k < r.length := by have := (List.getElem?_eq_some_iff.mp hk).1; rwa [List.length_reverse] at this
    rw [List.getElem?_reverse hk'] at hk
    rw [List.length_reverse]
    by_cases z : k + 1 < r.length
    · rw [if_pos z, List.getElem?_reverse z]
      refine ⟨_, List.getElem?_eq_getElem (by omega), ?_⟩
      refine c1 (r.length - 1 - (k + 1)) _ b (List.getElem?_eq_getElem (by omega)) ?_
      rw [show r.length - 1 - (k + 1) + 1 = r.length - 1 - k by omega]; exact hk
    · rw [if_neg z, List.getElem?_reverse c4]
      refine ⟨_, List.getElem?_eq_getElem (by omega), ?_⟩
      rw [show r.length - 1 - k = 0 by omega] at hk
      rw [c2 b hk]
      exact (c3 _ (by rw [← List.getElem?_eq_getElem (by omega), Nat.sub_zero])).symm
  · rw [List.map_reverse, List.sum_reverse]; exact h.sum
theorem eqF_bD (b : B1) : eqF (bD b) (bD b) = true := by
  unfold eqF bD
  simp [pd, pds, PyData.eqv, PyData.eqvAll]
theorem pures_bDs (B : List B1) : pures? 60 (B.map bD) = true := pures_of fun x hx => by
  obtain ⟨b, _, rfl⟩ := List.mem_map.mp hx
  show pures? 59 _ = true
  refine pures_of fun x hx => ?_
  rcases List.mem_cons.mp hx with rfl | hx
  · simp [pure?]
  rcases List.mem_cons.mp hx with rfl | hx
  · simp [pure?]
  · rw [List.mem_singleton.mp hx]; simp [pure?]
theorem pure_bD2 (b : B1) : pure? 60 (bD b) = true := by
  have := pures_bDs [b]
  rw [List.map_cons, List.map_nil] at this
  simpa [pures?] using this
theorem any_bD {b : B1} {L : List B1} (h : b ∈ L) : ((L.map bD).any fun z => eqF z (bD b)) = true := by
  rw [List.any_map, List.any_eq_true]
  exact ⟨b, h, eqF_bD b⟩
theorem bs_at {R : List B1} {k : Nat} {b : B1} (e : R[k]? = some b) {h : MH} {Q : KD} : ixD (bsD R) (.int (k : Nat)) h Q = Q (bD b) h := by
  show atK (atI (R.map bD) (k : Nat)) h Q = _
  rw [atI_of rfl (show (R.map bD)[k]? = some (bD b) by rw [List.getElem?_map, e]; rfl)]; rfl
theorem bs_len {R : List B1} {h : MH} {Q : KD} : lenD (bsD R) h Q = Q (.int (R.length : Nat)) h := by
  show Q (.int ((R.map bD).length : Nat)) h = _
  rw [List.length_map]
end DL
namespace DL
open PySem PySem.Spec PyProof.Rows L2 BF
local macro_rules | `(tactic| walk_at "ev") => `(tactic| try simp only [e_seq, e_next, e_brk, e_cnt, e_drop, e_ret, e_retN, e_ifS, e_asg, e_gN, e_gSb, e_gTp, e_gCn, e_gNl, e_var, e_varK, e_nth0, e_nthS, e_put0, e_putS, e_c, e_op, e_un, e_call, e_nil, e_cons, e_tup, e_lst, e_test, e_asB, e_tru, e_andT, e_orT, e_notT, e_andV, e_orV, e_notV, e_if, e_aug, e_augS, e_sl, e_part, e_partK, e_noPart, e_bm0, e_bm, e_join, e_yes, e_wipe0, e_wipeS, e_lc, e_for, v_add, v_addS, v_addT, v_iadd, v_sub, v_mul, v_fdiv, v_mod, v_pow, v_shl, v_shr, v_neg, v_lt, v_le, v_gt, v_ge, v_eqI, v_neI, v_eqS, v_neS, v_inS, v_ninS, v_inT, v_ninT, v_inR, v_ninR, v_inSeq, v_seqO, v_seqR, v_seqT, v_seqL, v_ixR, v_ixT, v_ixL, v_ixS, v_atK, v_atSK, v_get, v_getL, v_getK, v_set, v_setL, v_setK, v_on1, v_on2, v_lenR, v_lenT, v_lenL, v_lenS, v_seqK, v_tuple, v_list, v_abs, v_intI, v_intB, v_okL, v_isLst, v_app, v_lstK, v_slS, v_slT, v_join, v_is, v_isnot, v_max, v_min, v_iSeq, v_srcT, v_srcL, v_srcS, v_srcR, v_srcO, v_iRg1, v_rg1, v_truN, v_truB, v_truI, v_truS, v_truR, v_truT, v_truRol, v_truL, v_inRol, v_ninRol, v_inO, v_inOd, v_inDic, v_ixO, v_ixOd, v_ixSeq, v_ixDic, v_dgetK, v_ixStr, v_getO, v_getOd, v_setO, v_setOd, v_setDic, v_lenO, v_lenOd, e_dic0, e_disp, e_pairs0, e_pairsS, e_chain, v_bits, v_iRg3, v_rg3, v_iRg2, v_rg2, v_iEn, v_enT, v_enR, v_enO, v_iZp, v_zpT, v_zpR, v_zpO, v_repr, v_strI, v_strS, v_addR, v_and, v_slR, v_slL, v_ltS, v_srtT, v_srtR, v_srtO, v_srtD, v_revR, v_revT, v_isB, v_iZs, v_zsT, v_eqIS, v_neIS, v_eqB, v_neB])
/-- a worth's dict: numbers from 0 to 9999 -/
structure Wth (kvs : Kvs) (S : Str → Prop) : Prop where
  d : ∃ f : Str → Option Int, DSt kvs (mp D.int f) ∧ (∀ x v, f x = some v → 0 ≤ v ∧ v ≤ 9999) ∧ ∀ x, S x → ∃ v, f x = some v
theorem Wth.put {kvs : Kvs} {S : Str → Prop} (w : Wth kvs S) (x : Str) {v : Int} (h : 0 ≤ v ∧ v ≤ 9999) : Wth (dset kvs (.str x) (.int v)) fun y => S y ∨ y = x := by
  obtain ⟨f, d, b, s⟩ := w.d
  refine ⟨fup f x (some v), (d.put x (.int v)).to fun y => ?_, fun y u e => ?_, fun y hy => ?_⟩
  · unfold mp fup; split <;> rfl
  · by_cases z : y = x
    · subst z; rw [fup_same] at e; cases e; exact h
    · rw [fup_ne z] at e; exact b y u e
  · by_cases z : y = x
    · subst z; exact ⟨v, fup_same⟩
    · rw [fup_ne z]
      rcases hy with hy | hy
      · exact s y hy
      · exact absurd hy z
theorem Wth.ix {kvs : Kvs} {S : Str → Prop} (w : Wth kvs S) {x : Str} (hx : S x) : ∃ v : Int, 0 ≤ v ∧ v ≤ 9999 ∧ ∀ (h : MH) (Q : KD), ixDic kvs (.str x) h Q = Q (.int v) h := by
  obtain ⟨f, d, b, s⟩ := w.d
  obtain ⟨v, e⟩ := s x hx
  exact ⟨v, (b x v e).1, (b x v e).2, fun h Q => dic_ix d (by unfold mp; rw [e]; rfl)⟩
theorem Wth.fit {kvs : Kvs} {S : Str → Prop} (w : Wth kvs S) (x : Str) : fit kvs (.str x) = true := by
  obtain ⟨f, d, _⟩ := w.d
  exact d.fit x
theorem Wth.zero : Wth (dmerge [] [(.str Zs, .int 0)]) fun y => y = Zs := by
  refine ⟨fup (fun _ => none) Zs (some 0), (DSt.nil.put Zs (.int 0)).to fun x => ?_, fun y u e => ?_, fun y hy => ⟨0, by rw [hy]; exact fup_same⟩⟩
  · unfold mp fup; split <;> rfl
  · by_cases z : y = Zs
    · subst z; rw [fup_same] at e; cases e; decide
    · rw [fup_ne z] at e; cases e
theorem Wth.to {kvs : Kvs} {S S' : Str → Prop} (w : Wth kvs S) (h : ∀ y, S' y → S y) : Wth kvs S' := by
  obtain ⟨f, d, b, s⟩ := w.d
  exact ⟨f, d, b, fun x hx => s x (h x hx)⟩
/-- a text that may stand in a bound -/
def GS (x : Str) : Prop := PyData.strOk x = true ∧ x.length ≤ 20
theorem sh_bD {b : B1} (h1 : GS b.1) (h2 : GS b.2.1) (h3 : b.2.2.natAbs < 2 ^ 64) : sh 1000 (bD b) := by
  refine sh_up (sh_tup (c := 202) (n := 3) (ds := [.str b.1, .str b.2.1, .int b.2.2]) (fun d hd => ?_) (Nat.le_refl _)) (by decide)
  rcases List.mem_cons.mp hd with rfl | hd
  · exact sh_str h1.1 h1.2
  rcases List.mem_cons.mp hd with rfl | hd
  · exact sh_str h2.1 h2.2
  · rw [List.mem_singleton.mp hd]; exact sh_up (sh_int h3) (by decide)
theorem pure_bD (b : B1) : pure? 60 (bD b) = true := by
  show pures? 59 _ = true
  refine pures_of fun x hx => ?_
  rcases List.mem_cons.mp hx with rfl | hx
  · simp [pure?]
  rcases List.mem_cons.mp hx with rfl | hx
  · simp [pure?]
  · rw [List.mem_singleton.mp hx]; simp [pure?]
structure BOk (b : B1) : Prop where
  l : GS b.1
  r : GS b.2.1
  g : b.2.2.natAbs < 2 ^ 40
theorem repr_bD {b : B1} (h1 : GS b.1) (h2 : GS b.2.1) (h3 : b.2.2.natAbs < 2 ^ 64) : pure? 60 (bD b) = true ∧ (pd (bD b)).showable = true ∧ (pd (bD b)).shown.length ≤ sizeLine := by
  obtain ⟨x, y⟩ := sh_bD h1 h2 h3
  exact ⟨pure_bD b, x, Nat.le_trans y (by decide)⟩
theorem GS_Z : GS Zs := ⟨by decide +kernel, by decide⟩
structure BIn (ns : List Str) (b : B1) : Prop where
  l : b.1 ∈ ns
  r : b.2.1 ∈ ns
  g : b.2.2.natAbs < 2 ^ 30
/-- one of a row of numbers -/
theorem pick_list {h H : MH} {a c p : Addr} {cs : List Int} {o : MO} {xs : List D} {Q : KD} (d : Dr a c cs h) (k : DrO c o) (E : Ext h a o H) (np : H p = none) (ne : xs ≠ []) (hl : xs.length < 100)
    (q : ∀ x ∈ xs, ∀ o', DrO c o' → Ext h a o' (up (up H p (.lst xs)) a o') → Q x (up (up H p (.lst xs)) a o')) : sp__law_pick [.ref a, .ref p] (up H p (.lst xs)) Q := by
  have E1 := E.new (x := .lst xs) np
  exact ⟨a, c, cs, .ref p, xs, rfl, E1.dr d k, (by show seqO (up H p _ p) = _; rw [up_same]; rfl), (fun z => by cases z; exact E.ne np rfl), ne, by omega, fun x o' hx k' => q x hx o' k' E1.draw⟩
theorem draw_on {h H : MH} {a c : Addr} {cs : List Int} {o : MO} {n : Int} {Q : KD} (d : Dr a c cs h) (k : DrO c o) (E : Ext h a o H) (hn : 0 < n) (hn2 : n < 2 ^ 64) (q : ∀ r o', 0 ≤ r → r < n → DrO c o' → Ext h a o' (up H a o') → Q (.int r) (up H a o')) : sp__law_draw [.ref a, .int n] H Q :=
  ⟨a, c, cs, n, rfl, hn, hn2, E.dr d k, fun r o' r0 r1 k' => q r o' r0 r1 k' E.draw⟩
theorem mem_ints {x : D} {is : List Int} (h : x ∈ is.map D.int) : ∃ i ∈ is, x = .int i := by
  obtain ⟨i, hi, e⟩ := List.mem_map.mp h
  exact ⟨i, hi, e.symm⟩
theorem le_new {h hh : MH} {p : Addr} {x : MO} (l : le h hh) (e : hh p = some x) : le (up h p x) hh := fun b u q => by
  by_cases z : b = p
  · subst z; rw [up_same] at q; rw [e]; exact q
  · rw [up_ne z] at q; exact l b u q
end DL
namespace DL
open PySem PySem.Spec PyProof.Rows L2 BF
local macro_rules | `(tactic| walk_at "ev") => `(tactic| try simp only [e_seq, e_next, e_brk, e_cnt, e_drop, e_ret, e_retN, e_ifS, e_asg, e_gN, e_gSb, e_gTp, e_gCn, e_gNl, e_var, e_varK, e_nth0, e_nthS, e_put0, e_putS, e_c, e_op, e_un, e_call, e_nil, e_cons, e_tup, e_lst, e_test, e_asB, e_tru, e_andT, e_orT, e_notT, e_andV, e_orV, e_notV, e_if, e_aug, e_augS, e_sl, e_part, e_partK, e_noPart, e_bm0, e_bm, e_join, e_yes, e_wipe0, e_wipeS, e_lc, e_for, v_add, v_addS, v_addT, v_iadd, v_sub, v_mul, v_fdiv, v_mod, v_pow, v_shl, v_shr, v_neg, v_lt, v_le, v_gt, v_ge, v_eqI, v_neI, v_eqS, v_neS, v_inS, v_ninS, v_inT, v_ninT, v_inR, v_ninR, v_inSeq, v_seqO, v_seqR, v_seqT, v_seqL, v_ixR, v_ixT, v_ixL, v_ixS, v_atK, v_atSK, v_get, v_getL, v_getK, v_set, v_setL, v_setK, v_on1, v_on2, v_lenR, v_lenT, v_lenL, v_lenS, v_seqK, v_tuple, v_list, v_abs, v_intI, v_intB, v_okL, v_isLst, v_app, v_lstK, v_slS, v_slT, v_join, v_is, v_isnot, v_max, v_min, v_iSeq, v_srcT, v_srcL, v_srcS, v_srcR, v_srcO, v_iRg1, v_rg1, v_truN, v_truB, v_truI, v_truS, v_truR, v_truT, v_truRol, v_truL, v_inRol, v_ninRol, v_inO, v_inOd, v_inDic, v_ixO, v_ixOd, v_ixSeq, v_ixDic, v_dgetK, v_ixStr, v_getO, v_getOd, v_setO, v_setOd, v_setDic, v_lenO, v_lenOd, e_dic0, e_disp, e_pairs0, e_pairsS, e_chain, v_bits, v_iRg3, v_rg3, v_iRg2, v_rg2, v_iEn, v_enT, v_enR, v_enO, v_iZp, v_zpT, v_zpR, v_zpO, v_repr, v_strI, v_strS, v_addR, v_and, v_slR, v_slL, v_ltS, v_srtT, v_srtR, v_srtO, v_srtD, v_revR, v_revT, v_isB, v_iZs, v_zsT, v_eqIS, v_neIS, v_eqB, v_neB])
local macro_rules | `(tactic| walk_at "e0") => `(tactic| try simp only [e_seq, e_brk, e_cnt, e_drop, e_ret, e_retN, e_ifS, e_asg, e_gN, e_gSb, e_gTp, e_gCn, e_gNl, e_var, e_varK, e_nth0, e_nthS, e_put0, e_putS, e_c, e_op, e_un, e_call, e_nil, e_cons, e_tup, e_lst, e_test, e_asB, e_tru, e_andT, e_orT, e_notT, e_andV, e_orV, e_notV, e_if, e_aug, e_augS, e_sl, e_part, e_partK, e_noPart, e_bm0, e_bm, e_join, e_yes, e_wipe0, e_wipeS, e_lc, e_for, v_add, v_addS, v_addT, v_iadd, v_sub, v_mul, v_fdiv, v_mod, v_pow, v_shl, v_shr, v_neg, v_lt, v_le, v_gt, v_ge, v_eqI, v_neI, v_eqS, v_neS, v_inS, v_ninS, v_inT, v_ninT, v_inR, v_ninR, v_inSeq, v_seqO, v_seqR, v_seqT, v_seqL, v_ixR, v_ixT, v_ixL, v_ixS, v_atK, v_atSK, v_get, v_getL, v_getK, v_set, v_setL, v_setK, v_on1, v_on2, v_lenR, v_lenT, v_lenL, v_lenS, v_seqK, v_tuple, v_list, v_abs, v_intI, v_intB, v_okL, v_isLst, v_app, v_lstK, v_slS, v_slT, v_join, v_is, v_isnot, v_max, v_min, v_iSeq, v_srcT, v_srcL, v_srcS, v_srcR, v_srcO, v_iRg1, v_rg1, v_truN, v_truB, v_truI, v_truS, v_truR, v_truT, v_truRol, v_truL, v_inRol, v_ninRol, v_inO, v_inOd, v_inDic, v_ixO, v_ixOd, v_ixSeq, v_ixDic, v_dgetK, v_ixStr, v_getO, v_getOd, v_setO, v_setOd, v_setDic, v_lenO, v_lenOd, e_dic0, e_disp, e_pairs0, e_pairsS, e_chain, v_bits, v_iRg3, v_rg3, v_iRg2, v_rg2, v_iEn, v_enT, v_enR, v_enO, v_iZp, v_zpT, v_zpR, v_zpO, v_repr, v_strI, v_strS, v_addR, v_and, v_slR, v_slL, v_ltS, v_srtT, v_srtR, v_srtO, v_srtD, v_revR, v_revT, v_isB, v_iZs, v_zsT, v_eqIS, v_neIS, v_eqB, v_neB])
theorem map_pre {α β : Type} {f : α → β} {l : List α} : ∀ {ys : List β}, (∀ y ∈ ys, y ∈ l.map f) → ∃ m : List α, ys = m.map f ∧ ∀ x ∈ m, x ∈ l
  | [], _ => ⟨[], rfl, by simp⟩
  | y :: r, h => by
    obtain ⟨m, e, q⟩ := map_pre (fun z hz => h z (List.mem_cons_of_mem _ hz))
    obtain ⟨x, hx, ex⟩ := List.mem_map.mp (h y (by simp))
    refine ⟨x :: m, by rw [List.map_cons, ex, e], fun z hz => ?_⟩
    rcases List.mem_cons.mp hz with rfl | hz
    · exact hx
    · exact q z hz
/-- a row of draws, over any source -/
theorem lcT_drawsS {h : MH} {a c : Addr} {cs : List Int} (d : Dr a c cs h) (P : D → Prop) {xs : List D} {stab : MH → Prop} {g : G1} {te : E1} {vs : List Nat} {σ : Sl} {Q : KD} (hz : xs.length ≤ sizeLine) (hs : ∀ o, stab (up h a o))
    (he : ∀ (i : Nat) (x : D) (o : MO) (Q' : KD), xs[i]? = some x → DrO c o → (∀ y o', P y → DrO c o' → Q' y (up h a o')) → g x (wipeD σ vs) (up h a o) fun σ2 h2 => te σ2 h2 Q')
    (fin : ∀ (acc : List D) (o : MO) (p : Addr), acc.length = xs.length → (∀ y ∈ acc, P y) → DrO c o → up h a o p = none → Q (.ref p) (up (up h a o) p (.lst acc))) : lcT xs stab g dYes te vs σ Q h := by
  obtain ⟨o0, e0, k0⟩ := d.st
  refine ⟨hz, fun i acc hh => ∃ o, hh = up h a o ∧ DrO c o ∧ acc.length = i ∧ ∀ y ∈ acc, P y, ⟨h, le.refl, o0, (up_id e0).symm, k0, rfl, by simp⟩, fun _ _ _ ⟨o, e, _⟩ => by rw [e]; exact hs o, ?_, ?_⟩
  · rintro i x acc hh hx ⟨o, rfl, k, hl, hP⟩
    refine he i x o (fun y h4 => ∃ h5, le h5 h4 ∧ ∃ o, h5 = up h a o ∧ DrO c o ∧ (acc ++ [y]).length = i + 1 ∧ ∀ z ∈ acc ++ [y], P z) hx k fun y o' hy k' => ⟨_, le.refl, o', rfl, k', by rw [List.length_append, hl]; rfl, fun z hz => ?_⟩
    rcases List.mem_append.mp hz with hz | hz
    · exact hP z hz
    · rw [List.mem_singleton.mp hz]; exact hy
  · rintro acc hh ⟨o, rfl, k, hl, hP⟩ p np
    exact fin acc o p hl hP k np
theorem sum_abs : ∀ (ws : List Int) (m : Nat), (∀ w ∈ ws, w.natAbs ≤ m) → ws.sum.natAbs ≤ m * ws.length
  | [], m, _ => by simp
  | w :: r, m, h => by
    have a := sum_abs r m fun x hx => h x (by simp [hx])
    have b := h w (by simp)
    rw [List.sum_cons, List.length_cons, Nat.mul_succ]
    omega
end DL
namespace DL
open PySem PySem.Spec PyProof.Rows L2 BF
local macro_rules | `(tactic| walk_at "ev") => `(tactic| try simp only [e_seq, e_next, e_brk, e_cnt, e_drop, e_ret, e_retN, e_ifS, e_asg, e_gN, e_gSb, e_gTp, e_gCn, e_gNl, e_var, e_varK, e_nth0, e_nthS, e_put0, e_putS, e_c, e_op, e_un, e_call, e_nil, e_cons, e_tup, e_lst, e_test, e_asB, e_tru, e_andT, e_orT, e_notT, e_andV, e_orV, e_notV, e_if, e_aug, e_augS, e_sl, e_part, e_partK, e_noPart, e_bm0, e_bm, e_join, e_yes, e_wipe0, e_wipeS, e_lc, e_for, v_add, v_addS, v_addT, v_iadd, v_sub, v_mul, v_fdiv, v_mod, v_pow, v_shl, v_shr, v_neg, v_lt, v_le, v_gt, v_ge, v_eqI, v_neI, v_eqS, v_neS, v_inS, v_ninS, v_inT, v_ninT, v_inR, v_ninR, v_inSeq, v_seqO, v_seqR, v_seqT, v_seqL, v_ixR, v_ixT, v_ixL, v_ixS, v_atK, v_atSK, v_get, v_getL, v_getK, v_set, v_setL, v_setK, v_on1, v_on2, v_lenR, v_lenT, v_lenL, v_lenS, v_seqK, v_tuple, v_list, v_abs, v_intI, v_intB, v_okL, v_isLst, v_app, v_lstK, v_slS, v_slT, v_join, v_is, v_isnot, v_max, v_min, v_iSeq, v_srcT, v_srcL, v_srcS, v_srcR, v_srcO, v_iRg1, v_rg1, v_truN, v_truB, v_truI, v_truS, v_truR, v_truT, v_truRol, v_truL, v_inRol, v_ninRol, v_inO, v_inOd, v_inDic, v_ixO, v_ixOd, v_ixSeq, v_ixDic, v_dgetK, v_ixStr, v_getO, v_getOd, v_setO, v_setOd, v_setDic, v_lenO, v_lenOd, e_dic0, e_disp, e_pairs0, e_pairsS, e_chain, v_bits, v_iRg3, v_rg3, v_iRg2, v_rg2, v_iEn, v_enT, v_enR, v_enO, v_iZp, v_zpT, v_zpR, v_zpO, v_repr, v_strI, v_strS, v_addR, v_and, v_slR, v_slL, v_ltS, v_srtT, v_srtR, v_srtO, v_srtD, v_revR, v_revT, v_isB, v_iZs, v_zsT, v_eqIS, v_neIS, v_eqB, v_neB])
local macro_rules | `(tactic| walk_at "e0") => `(tactic| try simp only [e_seq, e_brk, e_cnt, e_drop, e_ret, e_retN, e_ifS, e_asg, e_gN, e_gSb, e_gTp, e_gCn, e_gNl, e_var, e_varK, e_nth0, e_nthS, e_put0, e_putS, e_c, e_op, e_un, e_call, e_nil, e_cons, e_tup, e_lst, e_test, e_asB, e_tru, e_andT, e_orT, e_notT, e_andV, e_orV, e_notV, e_if, e_aug, e_augS, e_sl, e_part, e_partK, e_noPart, e_bm0, e_bm, e_join, e_yes, e_wipe0, e_wipeS, e_lc, e_for, v_add, v_addS, v_addT, v_iadd, v_sub, v_mul, v_fdiv, v_mod, v_pow, v_shl, v_shr, v_neg, v_lt, v_le, v_gt, v_ge, v_eqI, v_neI, v_eqS, v_neS, v_inS, v_ninS, v_inT, v_ninT, v_inR, v_ninR, v_inSeq, v_seqO, v_seqR, v_seqT, v_seqL, v_ixR, v_ixT, v_ixL, v_ixS, v_atK, v_atSK, v_get, v_getL, v_getK, v_set, v_setL, v_setK, v_on1, v_on2, v_lenR, v_lenT, v_lenL, v_lenS, v_seqK, v_tuple, v_list, v_abs, v_intI, v_intB, v_okL, v_isLst, v_app, v_lstK, v_slS, v_slT, v_join, v_is, v_isnot, v_max, v_min, v_iSeq, v_srcT, v_srcL, v_srcS, v_srcR, v_srcO, v_iRg1, v_rg1, v_truN, v_truB, v_truI, v_truS, v_truR, v_truT, v_truRol, v_truL, v_inRol, v_ninRol, v_inO, v_inOd, v_inDic, v_ixO, v_ixOd, v_ixSeq, v_ixDic, v_dgetK, v_ixStr, v_getO, v_getOd, v_setO, v_setOd, v_setDic, v_lenO, v_lenOd, e_dic0, e_disp, e_pairs0, e_pairsS, e_chain, v_bits, v_iRg3, v_rg3, v_iRg2, v_rg2, v_iEn, v_enT, v_enR, v_enO, v_iZp, v_zpT, v_zpR, v_zpO, v_repr, v_strI, v_strS, v_addR, v_and, v_slR, v_slL, v_ltS, v_srtT, v_srtR, v_srtO, v_srtD, v_revR, v_revT, v_isB, v_iZs, v_zsT, v_eqIS, v_neIS, v_eqB, v_neB])
theorem least_one {B : List B1} {s s' : Str → Int} (h : LeastS B s) (h' : LeastS B s') : s = s' := funext fun x => Int.le_antisymm (h.2 s' h'.1 x) (h'.2 s h.1 x)
theorem ringGo_len (fr : Str → Option B1) (x : Str) : ∀ (n : Nat) (y : Str), (ringGo fr x n y).length ≤ n + 1 := by
  intro n
  induction n with
  | zero => intro y; unfold ringGo; (try split) <;> simp
  | succ n ih =>
    intro y; unfold ringGo
    split
    · simp
    · split
      · simp
      · rw [List.length_cons]; have := ih; simp_all
theorem settleGo_len {rows : List B1} {N : Nat} : ∀ (n k : Nat) {r : List B1}, settleGo rows N n k = .ring r → r.length ≤ N + 1
  | 0, k, r, e => by
    unfold settleGo at e
    cases e
    exact ringGo_len _ _ _ _
  | n + 1, k, r, e => by
    unfold settleGo at e
    split at e
    · cases e
    · exact settleGo_len n (k + 1) e
/-- what settle tells of a world that has worths -/
def leastD (B : List B1) (s : Str → Int) : D := .tup [.str (Str.ofString "least"), .tup ((termsF B).map fun t => .tup [.str t, .int (s t)])]
def BGS (B : List B1) : Prop := ∀ b ∈ B, GS b.1 ∧ GS b.2.1
theorem terms_GS {B : List B1} (h : BGS B) : ∀ t ∈ termsF B, GS t := fun t ht => by
  obtain ⟨_, b, hb, e | e⟩ := terms_mem.mp ht
  · rw [e]; exact (h b hb).1
  · rw [e]; exact (h b hb).2
theorem terms_len2 (B : List B1) : (termsF B).length ≤ 2 * B.length := terms_len B
theorem leastD_ok {B : List B1} {s : Str → Int} (hB : B.length ≤ 100) (G : BGS B) (S : Sol B s) : pure? 60 (leastD B s) = true ∧ (pd (leastD B s)).showable = true ∧ (pd (leastD B s)).shown.length ≤ sizeLine := by
  have hT := terms_len2 B
  have one : ∀ t ∈ termsF B, sh 411 (.tup [.str t, .int (s t)]) := fun t ht => by
    have lo := S.lo t
    have hi := S.hi t
    refine sh_tup (c := 202) (n := 2) (fun d hd => ?_) (Nat.le_refl _)
    rcases List.mem_cons.mp hd with rfl | hd
    · exact sh_str (terms_GS G t ht).1 (terms_GS G t ht).2
    · rw [List.mem_singleton.mp hd]; exact sh_up (sh_int (by omega)) (by decide)
  have two : sh 82603 (.tup ((termsF B).map fun t => .tup [.str t, .int (s t)])) := sh_tup (c := 411) (n := 200) (fun d hd => by
    obtain ⟨t, ht, rfl⟩ := List.mem_map.mp hd
    exact one t ht) (by rw [List.length_map]; omega)
  obtain ⟨x, y⟩ : sh 165213 (leastD B s) := sh_tup (c := 82603) (n := 2) (fun d hd => by
    rcases List.mem_cons.mp hd with rfl | hd
    · exact sh_up (sh_str (n := 5) (by decide +kernel) (by decide)) (by decide)
    · rw [List.mem_singleton.mp hd]; exact two) (Nat.le_refl _)
  refine ⟨?_, x, Nat.le_trans y (by decide)⟩
  show pures? 59 _ = true
  refine pures_of fun d hd => ?_
  rcases List.mem_cons.mp hd with rfl | hd
  · simp [pure?]
  · rw [List.mem_singleton.mp hd]
    show pures? 58 _ = true
    refine pures_of fun d hd => ?_
    obtain ⟨t, ht, rfl⟩ := List.mem_map.mp hd
    show pures? 57 _ = true
    refine pures_of fun d hd => ?_
    rcases List.mem_cons.mp hd with rfl | hd
    · simp [pure?]
    · rw [List.mem_singleton.mp hd]; simp [pure?]
theorem resD_least {B : List B1} {s : Str → Int} (L : LeastS B s) : resD B (settleF B) = leastD B s := by
  rcases settle_spec B with ⟨w, e, s2, S2, hw, m2⟩ | ⟨r, e, R⟩
  · have es : s2 = s := least_one ⟨S2, m2⟩ L
    subst es
    rw [e]
    show D.tup [_, .tup _] = D.tup [_, .tup _]
    congr 4
    refine List.map_congr_left fun t ht => ?_
    rw [hw t (List.mem_cons_of_mem _ ht)]; rfl
  · exact absurd L.1 (ring_no R s)
theorem resD_ring {B : List B1} (n : ¬ ∃ s, Sol B s) : ∃ R, resD B (settleF B) = .tup [.str (Str.ofString "ring"), bsD R] ∧ R.length ≤ (termsF B).length + 2 ∧ RingD B R := by
  rcases settle_spec B with ⟨w, e, s2, S2, _⟩ | ⟨r, e, R⟩
  · exact absurd ⟨s2, S2⟩ n
  · refine ⟨r.reverse, by rw [e]; rfl, ?_, ringD_of R⟩
    rw [List.length_reverse]
    exact settleGo_len _ _ e
end DL
namespace DL
open PySem PySem.Spec PyProof.Rows L2 BF
local macro_rules | `(tactic| walk_at "ev") => `(tactic| try simp only [e_seq, e_next, e_brk, e_cnt, e_drop, e_ret, e_retN, e_ifS, e_asg, e_gN, e_gSb, e_gTp, e_gCn, e_gNl, e_var, e_varK, e_nth0, e_nthS, e_put0, e_putS, e_c, e_op, e_un, e_call, e_nil, e_cons, e_tup, e_lst, e_test, e_asB, e_tru, e_andT, e_orT, e_notT, e_andV, e_orV, e_notV, e_if, e_aug, e_augS, e_sl, e_part, e_partK, e_noPart, e_bm0, e_bm, e_join, e_yes, e_wipe0, e_wipeS, e_lc, e_for, v_add, v_addS, v_addT, v_iadd, v_sub, v_mul, v_fdiv, v_mod, v_pow, v_shl, v_shr, v_neg, v_lt, v_le, v_gt, v_ge, v_eqI, v_neI, v_eqS, v_neS, v_inS, v_ninS, v_inT, v_ninT, v_inR, v_ninR, v_inSeq, v_seqO, v_seqR, v_seqT, v_seqL, v_ixR, v_ixT, v_ixL, v_ixS, v_atK, v_atSK, v_get, v_getL, v_getK, v_set, v_setL, v_setK, v_on1, v_on2, v_lenR, v_lenT, v_lenL, v_lenS, v_seqK, v_tuple, v_list, v_abs, v_intI, v_intB, v_okL, v_isLst, v_app, v_lstK, v_slS, v_slT, v_join, v_is, v_isnot, v_max, v_min, v_iSeq, v_srcT, v_srcL, v_srcS, v_srcR, v_srcO, v_iRg1, v_rg1, v_truN, v_truB, v_truI, v_truS, v_truR, v_truT, v_truRol, v_truL, v_inRol, v_ninRol, v_inO, v_inOd, v_inDic, v_ixO, v_ixOd, v_ixSeq, v_ixDic, v_dgetK, v_ixStr, v_getO, v_getOd, v_setO, v_setOd, v_setDic, v_lenO, v_lenOd, e_dic0, e_disp, e_pairs0, e_pairsS, e_chain, v_bits, v_iRg3, v_rg3, v_iRg2, v_rg2, v_iEn, v_enT, v_enR, v_enO, v_iZp, v_zpT, v_zpR, v_zpO, v_repr, v_strI, v_strS, v_addR, v_and, v_slR, v_slL, v_ltS, v_srtT, v_srtR, v_srtO, v_srtD, v_revR, v_revT, v_isB, v_iZs, v_zsT, v_eqIS, v_neIS, v_eqB, v_neB])
def sp_opposite : P1 := fun ds h Q => ∃ b : B1, ds = [bD b] ∧ Q (bD (opp b)) h
theorem len_opposite : ∀ ds h Q, sp_opposite ds h Q → ds.length = 1 := fun ds h Q ⟨_, e, _⟩ => by rw [e]; rfl
theorem sat_opposite : ∀ ds h Q, sp_opposite ds h Q → rd_opposite (endN Q) (startD 4 ds) h := by
  rintro ds h Q ⟨⟨l, r, g⟩, rfl, q⟩
  show rd_opposite (endN Q) [some (bD (l, r, g)), none, none, none] h
  unfold rd_opposite
  walk_at "ev"
  show gTp 3 _ (.tup [.str l, .str r, .int g]) _ _ _
  walk_at "ev"
  refine ⟨rfl, ?_⟩
  unfold rd_opposite_1
  walk_at "ev"
  exact ⟨by show 3 ≤ sizeLine; decide, lh_of q⟩
def folD (B : List B1) : D := match settleF B with
  | .ring r => .tup [.str (Str.ofString "follows"), .tup (r.reverse.map bD)]
  | .least w => .tup [.str (Str.ofString "breaks"), .tup ((termsF B).map fun t => .tup [.str t, .int ((w t).getD 0)])]
def sp_follows : P1 := fun ds h Q => ∃ (B : List B1) (b : B1), ds = [bsD B, bD b] ∧ B.length ≤ 99 ∧ Q (folD (B ++ [opp b])) h
theorem len_follows : ∀ ds h Q, sp_follows ds h Q → ds.length = 2 := fun ds h Q ⟨_, _, e, _⟩ => by rw [e]; rfl
theorem v_addTT {a b : List D} {h : MH} {Q : KD} : addD (.tup a) (.tup b) h Q = (a.length + b.length ≤ sizeLine ∧ Q (.tup (a ++ b)) h) := rfl
theorem sat_follows : ∀ ds h Q, sp_follows ds h Q → rd_follows sp_settle sp_opposite (endN Q) (startD 4 ds) h := by
  rintro ds h Q ⟨B, b, rfl, hB, q⟩
  show rd_follows sp_settle sp_opposite (endN Q) [some (bsD B), some (bD b), none, none] h
  unfold rd_follows
  walk_at "ev"
  show seqK _ (some (B.map bD))
  walk_at "ev"
  refine ⟨b, rfl, ?_⟩
  refine ⟨by show 1 ≤ sizeLine; decide, by rw [List.length_map]; exact Nat.le_of_lt (sl_lt (by show B.length + 1 ≤ _; omega)), ?_⟩
  refine ⟨B ++ [opp b], by unfold bsD; rw [List.map_append]; rfl, by rw [List.length_append, List.length_singleton]; omega, ?_⟩
  unfold folD at q
  cases c : settleF (B ++ [opp b]) with
  | ring r =>
    rw [c] at q
    show gTp 2 _ (.tup [.str (Str.ofString "ring"), .tup (r.reverse.map bD)]) _ _ _
    walk_at "ev"
    refine ⟨rfl, ?_⟩
    unfold rd_follows_1
    walk_at "ev"
    rw [if_pos (by decide)]
    exact ⟨by show 2 ≤ sizeLine; decide, lh_of q⟩
  | least w =>
    rw [c] at q
    show gTp 2 _ (.tup [.str (Str.ofString "least"), .tup ((termsF (B ++ [opp b])).map fun t => .tup [.str t, .int ((w t).getD 0)])]) _ _ _
    walk_at "ev"
    refine ⟨rfl, ?_⟩
    unfold rd_follows_1
    walk_at "ev"
    rw [if_neg (by decide)]
    exact ⟨by show 2 ≤ sizeLine; decide, lh_of q⟩
end DL
namespace DL
open PySem PySem.Spec PyProof.Rows L2 BF
local macro_rules | `(tactic| walk_at "ev") => `(tactic| try simp only [e_seq, e_next, e_brk, e_cnt, e_drop, e_ret, e_retN, e_ifS, e_asg, e_gN, e_gSb, e_gTp, e_gCn, e_gNl, e_var, e_varK, e_nth0, e_nthS, e_put0, e_putS, e_c, e_op, e_un, e_call, e_nil, e_cons, e_tup, e_lst, e_test, e_asB, e_tru, e_andT, e_orT, e_notT, e_andV, e_orV, e_notV, e_if, e_aug, e_augS, e_sl, e_part, e_partK, e_noPart, e_bm0, e_bm, e_join, e_yes, e_wipe0, e_wipeS, e_lc, e_for, v_add, v_addS, v_addT, v_iadd, v_sub, v_mul, v_fdiv, v_mod, v_pow, v_shl, v_shr, v_neg, v_lt, v_le, v_gt, v_ge, v_eqI, v_neI, v_eqS, v_neS, v_inS, v_ninS, v_inT, v_ninT, v_inR, v_ninR, v_inSeq, v_seqO, v_seqR, v_seqT, v_seqL, v_ixR, v_ixT, v_ixL, v_ixS, v_atK, v_atSK, v_get, v_getL, v_getK, v_set, v_setL, v_setK, v_on1, v_on2, v_lenR, v_lenT, v_lenL, v_lenS, v_seqK, v_tuple, v_list, v_abs, v_intI, v_intB, v_okL, v_isLst, v_app, v_lstK, v_slS, v_slT, v_join, v_is, v_isnot, v_max, v_min, v_iSeq, v_srcT, v_srcL, v_srcS, v_srcR, v_srcO, v_iRg1, v_rg1, v_truN, v_truB, v_truI, v_truS, v_truR, v_truT, v_truRol, v_truL, v_inRol, v_ninRol, v_inO, v_inOd, v_inDic, v_ixO, v_ixOd, v_ixSeq, v_ixDic, v_dgetK, v_ixStr, v_getO, v_getOd, v_setO, v_setOd, v_setDic, v_lenO, v_lenOd, e_dic0, e_disp, e_pairs0, e_pairsS, e_chain, v_bits, v_iRg3, v_rg3, v_iRg2, v_rg2, v_iEn, v_enT, v_enR, v_enO, v_iZp, v_zpT, v_zpR, v_zpO, v_repr, v_strI, v_strS, v_addR, v_and, v_slR, v_slL, v_ltS, v_srtT, v_srtR, v_srtO, v_srtD, v_revR, v_revT, v_isB, v_iZs, v_zsT, v_eqIS, v_neIS, v_eqB, v_neB])
def pk (p : Str × Str) : D := .tup [.str p.1, .str p.2]
theorem nk_pk (p : Str × Str) : nk (pk p) = some (.tup [.text p.1, .text p.2]) := by simp [pk, nk, nks]
theorem nk_pk_inj {p q : Str × Str} : (nk (pk p) = nk (pk q)) ↔ p = q := by
  rw [nk_pk, nk_pk]
  constructor
  · intro h
    cases p; cases q
    simp at h
    simp [h.1, h.2]
  · intro h; rw [h]
theorem tupK_pk (p : Str × Str) : tupK (pk p) = true := by
  have e : nk (.tup [.str p.1, .str p.2]) = some (.tup [.text p.1, .text p.2]) := nk_pk p
  unfold pk tupK
  simp only [e, NestedKey.depth, NestedKey.depthAll]
  exact decide_eq_true (by omega)
structure DPs (kvs : Kvs) (S : Str × Str → Prop) (c : CF) : Prop where
  all : kvs.all (fun p => tupK p.1) = true
  get : ∀ p, S p → dget kvs (pk p) = some (.int (c p))
theorem DPs.fit {kvs : Kvs} {S : Str × Str → Prop} {c : CF} (d : DPs kvs S c) (p : Str × Str) : fit kvs (pk p) = true := by
  unfold DL.fit
  rw [d.all, tupK_pk]; simp
theorem DPs.put {kvs : Kvs} {S : Str × Str → Prop} {c : CF} (d : DPs kvs S c) (q : Str × Str) (v : Int) : DPs (dset kvs (pk q) (.int v)) (fun p => S p ∨ p = q) (fup c q v) := by
  refine ⟨dset_all (P := tupK) d.all (tupK_pk q), fun p hp => ?_⟩
  rw [dget_dset]
  unfold fup
  by_cases e : p = q
  · rw [if_pos (nk_pk_inj.mpr e), if_pos e]
  · rw [if_neg fun z => e (nk_pk_inj.mp z), if_neg e]
    rcases hp with hp | hp
    · exact d.get p hp
    · exact absurd hp e
theorem DPs.upd {kvs : Kvs} {S : Str × Str → Prop} {c : CF} (d : DPs kvs S c) {q : Str × Str} (h : S q) (v : Int) : DPs (dset kvs (pk q) (.int v)) S (fup c q v) ∧ (dset kvs (pk q) (.int v)).length = kvs.length := by
  refine ⟨⟨(d.put q v).all, fun p hp => (d.put q v).get p (.inl hp)⟩, ?_⟩
  unfold dset
  rw [d.get q h, if_pos (by rfl), List.length_map]
def c0F : CF := fun p => if p.1 = p.2 ∨ p.1 = Zs then 0 else 9999
def cBF (B : List B1) : CF := B.foldl (fun c b => fup c (b.1, b.2.1) (mn (c (b.1, b.2.1)) b.2.2)) c0F
def Sq (ts : List Str) : Str × Str → Prop := fun p => p.1 ∈ ts ∧ p.2 ∈ ts
theorem fup_mn_le (c : CF) (q : Str × Str) (g : Int) (p : Str × Str) : fup c q (mn (c q) g) p ≤ c p := by
  unfold fup; split
  · rename_i e; rw [e]; exact mn_le_l _ _
  · exact Int.le_refl _
theorem cB_le (B : List B1) (c : CF) (p : Str × Str) : B.foldl (fun c b => fup c (b.1, b.2.1) (mn (c (b.1, b.2.1)) b.2.2)) c p ≤ c p := foldC_le _ (fun c b p => fup_mn_le c _ _ p) B c p
theorem cB_b : ∀ (B : List B1) (c : CF) (b : B1), b ∈ B → B.foldl (fun c b => fup c (b.1, b.2.1) (mn (c (b.1, b.2.1)) b.2.2)) c (b.1, b.2.1) ≤ b.2.2
  | x :: B, c, b, hb => by
    rw [List.foldl_cons]
    rcases List.mem_cons.mp hb with rfl | hb
    · refine Int.le_trans (cB_le B _ _) ?_
      rw [fup_same]; exact mn_le_r _ _
    · exact cB_b B _ b hb
theorem base_ok (B : List B1) (ts : List Str) : Base B ts (cBF B) := by
  refine ⟨fun t _ => Int.le_trans (cB_le B c0F _) ?_, fun t _ => Int.le_trans (cB_le B c0F _) ?_, fun t _ => Int.le_trans (cB_le B c0F _) ?_, fun b hb => cB_b B c0F b hb, fun s S => ?_⟩
  · unfold c0F; simp
  · unfold c0F; simp
  · unfold c0F; split <;> decide
  · have h0 : Above s c0F := fun p => by
      have := S.lo p.1; have := S.lo p.2; have := S.hi p.1; have := S.z
      unfold c0F
      split
      · rename_i h
        rcases h with h | h
        · rw [h]; omega
        · rw [h]; omega
      · omega
    have step : ∀ (L : List B1) (c : CF), (∀ b ∈ L, b ∈ B) → Above s c → Above s (L.foldl (fun c b => fup c (b.1, b.2.1) (mn (c (b.1, b.2.1)) b.2.2)) c) := by
      intro L
      induction L with
      | nil => exact fun c _ a => a
      | cons b L ih =>
        intro c hL a
        rw [List.foldl_cons]
        refine ih _ (fun x hx => hL x (by simp [hx])) fun p => ?_
        unfold fup
        split
        · rename_i e; subst e
          have h1 := a (b.1, b.2.1)
          have h2 := S.b b (hL b (by simp))
          refine le_mn h1 ?_
          show s b.1 - s b.2.1 ≤ _
          omega
        · exact a p
    exact step B c0F (fun _ h => h) h0
def sp__law_closure : P1 := fun ds h Q => ∃ (B : List B1) (ts : List Str) (tl : Addr), ds = [bsD B, .ref tl] ∧ h tl = some (.lst (ts.map D.str)) ∧ ts.length ≤ 100 ∧ (∀ b ∈ B, b.1 ∈ ts ∧ b.2.1 ∈ ts) ∧
  ∀ (p : Addr) (kvs : Kvs), h p = none → DPs kvs (Sq ts) (closeC ts (cBF B)) → Q (.ref p) (up h p (.dic kvs))
theorem len__law_closure : ∀ ds h Q, sp__law_closure ds h Q → ds.length = 2 := fun ds h Q ⟨_, _, _, e, _⟩ => by rw [e]; rfl
theorem dic_pk {kvs : Kvs} {S : Str × Str → Prop} {c : CF} (d : DPs kvs S c) {p : Str × Str} (hp : S p) {h : MH} {Q : KD} : ixDic kvs (.tup [.str p.1, .str p.2]) h Q = Q (.int (c p)) h := by
  show ixDic kvs (pk p) h Q = _
  rw [v_ixDic, d.get p hp]
  show (_ ∧ Q _ h) = Q _ h
  rw [d.fit p]; simp
theorem sat__law_closure : ∀ ds h Q, sp__law_closure ds h Q → rd__law_closure (endN Q) (startD 7 ds) h := by
  rintro ds h Q ⟨B, ts, tl, rfl, et, hts, hB, q⟩
  show rd__law_closure (endN Q) [some (bsD B), some (.ref tl), none, none, none, none, none] h
  unfold rd__law_closure
  walk_at "ev"
  intro fd nfd
  have tf : tl ≠ fd := nef et nfd
  have etd : ∀ kvs, up h fd (.dic kvs) tl = some (.lst (ts.map D.str)) := fun kvs => by rw [up_ne tf]; exact et
  have t2 : ts.length * ts.length ≤ 100 * 100 := Nat.mul_le_mul hts hts
  unfold rd__law_closure_1
  walk_at "ev"
  rw [etd]
  walk_at "ev"
  -- the first two loops
  refine ⟨fun i σ hh => ∃ kvs x3 x4 x5 x6, hh = up h fd (.dic kvs) ∧ DPs kvs (fun p => p.1 ∈ ts.take i ∧ p.2 ∈ ts) c0F ∧ kvs.length ≤ i * ts.length ∧ σ = [some (bsD B), some (.ref tl), some (.ref fd), x3, x4, x5, x6], Lw.of ⟨[], none, none, none, none, rfl, ⟨rfl, fun p hp => by simp at hp⟩, by simp, rfl⟩, fun i σ hh ⟨kvs, _, _, _, _, e, _⟩ => by rw [e]; exact etd kvs, ?_, ?_⟩
  · rintro i x σ hh hx ⟨kvs, x3, x4, x5, x6, rfl, d, hl, rfl⟩
    rw [List.getElem?_map] at hx
    obtain ⟨l, hlt, rfl⟩ := Option.map_eq_some_iff.mp hx
    obtain ⟨hi, el⟩ := List.getElem?_eq_some_iff.mp hlt
    have hi2 : (i + 1) * ts.length ≤ 100 * 100 := Nat.le_trans (Nat.mul_le_mul_right _ (by omega)) t2
    rw [Nat.succ_mul] at hi2
    walk_at "ev"
    unfold rd__law_closure_b1
    walk_at "ev"
    rw [etd]
    walk_at "ev"
    refine ⟨fun j σ hh => ∃ kvs y4, hh = up h fd (.dic kvs) ∧ DPs kvs (fun p => (p.1 ∈ ts.take i ∧ p.2 ∈ ts) ∨ (p.1 = l ∧ p.2 ∈ ts.take j)) c0F ∧ kvs.length ≤ i * ts.length + j ∧ σ = [some (bsD B), some (.ref tl), some (.ref fd), some (.str l), y4, x5, x6], Lw.of ⟨kvs, _, rfl, ⟨d.all, fun p hp => d.get p (hp.resolve_right (by simp))⟩, hl, rfl⟩, fun j σ hh ⟨kvs, _, e, _⟩ => by rw [e]; exact etd kvs, ?_, ?_⟩
    · rintro j x σ hh hx ⟨kvs, y4, rfl, d, hl, rfl⟩
      rw [List.getElem?_map] at hx
      obtain ⟨r, hrt, rfl⟩ := Option.map_eq_some_iff.mp hx
      obtain ⟨hj, er⟩ := List.getElem?_eq_some_iff.mp hrt
      walk_at "ev"
      unfold rd__law_closure_b2
      walk_at "ev"
      have fin : ∀ v : Int, v = c0F (l, r) → (2 ≤ sizeLine ∧ setO fd (.tup [.str l, .str r]) (.int v) (up h fd (.dic kvs)) (fun h3 => Lw (fun σ hh => ∃ kvs y4, hh = up h fd (.dic kvs) ∧ DPs kvs (fun p => (p.1 ∈ ts.take i ∧ p.2 ∈ ts) ∨ (p.1 = l ∧ p.2 ∈ ts.take (j + 1))) c0F ∧ kvs.length ≤ i * ts.length + (j + 1) ∧ σ = [some (bsD B), some (.ref tl), some (.ref fd), some (.str l), y4, x5, x6]) [some (bsD B), some (.ref tl), some (.ref fd), some (.str l), some (.str r), x5, x6] h3) (up h fd (.dic kvs) fd)) := fun v hv => by
        refine ⟨by decide, ?_⟩
        rw [up_same]
        walk_at "ev"
        have pp := d.put (l, r) v
        have hlen := dset_len kvs (pk (l, r)) (.int v)
        refine ⟨d.fit (l, r), sl_lt (by omega), Lw.of ⟨_, _, up_up, ⟨pp.all, fun p hp => ?_⟩, ?_, rfl⟩⟩
        · have hp' : ((p.1 ∈ ts.take i ∧ p.2 ∈ ts) ∨ (p.1 = l ∧ p.2 ∈ ts.take j)) ∨ p = (l, r) := by
            rcases hp with hp | ⟨h1, h2⟩
            · exact .inl (.inl hp)
            · rw [List.take_succ_eq_append_getElem hj, List.mem_append, er] at h2
              rcases h2 with h2 | h2
              · exact .inl (.inr ⟨h1, h2⟩)
              · right
                cases p
                simp_all
          have := pp.get p hp'
          rw [show fup c0F (l, r) v p = c0F p by unfold fup; split; rename_i e; rw [e, hv]; rfl] at this
          exact this
        · show (dset kvs (pk (l, r)) (.int v)).length ≤ _
          omega
      by_cases c1 : l = r
      · rw [decide_eq_true c1]
        simp only [if_true]
        exact fin 0 (by unfold c0F; rw [if_pos (.inl c1)])
      · rw [decide_eq_false c1]
        simp only [Bool.false_eq_true, if_false]
        by_cases c2 : l = Zs
        · rw [decide_eq_true (show l = Str.ofString "0" from c2)]
          simp only [if_true]
          exact fin 0 (by unfold c0F; rw [if_pos (.inr c2)])
        · rw [decide_eq_false (show ¬ l = Str.ofString "0" from c2)]
          simp only [Bool.false_eq_true, if_false]
          exact fin 9999 (by unfold c0F; rw [if_neg]; rintro (z | z); exact c1 z; exact c2 z)
    · rintro σ hh ⟨kvs, y4, rfl, d, hl, rfl⟩
      rw [List.length_map, List.take_length] at d
      rw [List.length_map] at hl
      refine Lw.of ⟨kvs, _, _, _, _, rfl, ⟨d.all, fun p hp => d.get p ?_⟩, by rw [Nat.succ_mul]; exact hl, rfl⟩
      obtain ⟨h1, h2⟩ := hp
      rw [List.take_succ_eq_append_getElem hi, List.mem_append, el] at h1
      rcases h1 with h1 | h1
      · exact .inl ⟨h1, h2⟩
      · exact .inr ⟨List.mem_singleton.mp h1, h2⟩
  · rintro σ hh ⟨kvs, x3, x4, x5, x6, rfl, d, hl, rfl⟩
    rw [List.length_map, List.take_length] at d
    rw [List.length_map] at hl
    have hl2 : kvs.length ≤ 10000 := Nat.le_trans hl t2
    clear hl
    walk_at "ev"
    unfold rd__law_closure_2
    walk_at "ev"
    show srcD (.tup (B.map bD)) _ _
    rw [v_srcT]
    refine ⟨fun i σ hh => ∃ kvs x3 x4 x5 x6, hh = up h fd (.dic kvs) ∧ DPs kvs (Sq ts) ((B.take i).foldl (fun c b => fup c (b.1, b.2.1) (mn (c (b.1, b.2.1)) b.2.2)) c0F) ∧ kvs.length ≤ 10000 ∧ σ = [some (bsD B), some (.ref tl), some (.ref fd), x3, x4, x5, x6], Lw.of ⟨kvs, _, _, _, _, rfl, d, hl2, rfl⟩, fun _ _ _ _ => trivial, ?_, ?_⟩
    · rintro i x σ hh hx ⟨kvs, x3, x4, x5, x6, rfl, d, hl, rfl⟩
      rw [List.getElem?_map] at hx
      obtain ⟨⟨l, r, g⟩, hb, rfl⟩ := Option.map_eq_some_iff.mp hx
      obtain ⟨hi, eb⟩ := List.getElem?_eq_some_iff.mp hb
      have hm := hB _ (List.mem_of_getElem? hb)
      show gTp 3 _ (.tup [.str l, .str r, .int g]) _ _ _
      walk_at "ev"
      refine ⟨rfl, ?_⟩
      unfold rd__law_closure_b3
      walk_at "ev"
      refine ⟨by show 2 ≤ sizeLine; decide, ?_⟩
      rw [up_same]
      walk_at "ev"
      rw [← v_ixDic, dic_pk d (p := (l, r)) hm]
      walk_at "ev"
      refine ⟨by show 2 ≤ sizeLine; decide, ?_⟩
      rw [up_same]
      walk_at "ev"
      obtain ⟨d2, hl2⟩ := d.upd (q := (l, r)) hm (mn ((B.take i).foldl (fun c b => fup c (b.1, b.2.1) (mn (c (b.1, b.2.1)) b.2.2)) c0F (l, r)) g)
      refine ⟨d.fit (l, r), sl_lt (by omega), Lw.of ⟨_, _, _, _, _, up_up, ?_, by rw [← hl2] at hl; exact hl, rfl⟩⟩
      rw [List.take_succ_eq_append_getElem hi, List.foldl_append, eb]
      exact d2
    · rintro σ hh ⟨kvs, x3, x4, x5, x6, rfl, d, hl, rfl⟩
      rw [List.length_map, List.take_length] at d
      have d : DPs kvs (Sq ts) (cBF B) := d
      walk_at "ev"
      unfold rd__law_closure_3
      walk_at "ev"
      rw [etd]
      walk_at "ev"
      refine ⟨fun i σ hh => ∃ kvs x3 x4 x5 x6, hh = up h fd (.dic kvs) ∧ DPs kvs (Sq ts) ((ts.take i).foldl (fun c m => phaseC ts c m) (cBF B)) ∧ kvs.length ≤ 10000 ∧ σ = [some (bsD B), some (.ref tl), some (.ref fd), x3, x4, x5, x6], Lw.of ⟨kvs, _, _, _, _, rfl, d, hl, rfl⟩, fun i σ hh ⟨kvs, _, _, _, _, e, _⟩ => by rw [e]; exact etd kvs, ?_, ?_⟩
      · rintro i x σ hh hx ⟨kvs, x3, x4, x5, x6, rfl, d, hl, rfl⟩
        rw [List.getElem?_map] at hx
        obtain ⟨m, hmt, rfl⟩ := Option.map_eq_some_iff.mp hx
        obtain ⟨hi, em⟩ := List.getElem?_eq_some_iff.mp hmt
        have hm := List.mem_of_getElem? hmt
        have es : (ts.take (i + 1)).foldl (fun c m => phaseC ts c m) (cBF B) = phaseC ts ((ts.take i).foldl (fun c m => phaseC ts c m) (cBF B)) m := by rw [List.take_succ_eq_append_getElem hi, List.foldl_append, em]; rfl
        generalize (ts.take i).foldl (fun c m => phaseC ts c m) (cBF B) = c at d es
        walk_at "ev"
        unfold rd__law_closure_b4
        walk_at "ev"
        rw [etd]
        walk_at "ev"
        refine ⟨fun j σ hh => ∃ kvs y3 y4, hh = up h fd (.dic kvs) ∧ DPs kvs (Sq ts) ((ts.take j).foldl (fun c l => rowC ts m c l) c) ∧ kvs.length ≤ 10000 ∧ σ = [some (bsD B), some (.ref tl), some (.ref fd), y3, y4, x5, some (.str m)], Lw.of ⟨kvs, _, _, rfl, d, hl, rfl⟩, fun i σ hh ⟨kvs, _, _, e, _⟩ => by rw [e]; exact etd kvs, ?_, ?_⟩
        · rintro j x σ hh hx ⟨kvs, y3, y4, rfl, d, hl, rfl⟩
          rw [List.getElem?_map] at hx
          obtain ⟨l, hlt, rfl⟩ := Option.map_eq_some_iff.mp hx
          obtain ⟨hj, el⟩ := List.getElem?_eq_some_iff.mp hlt
          have hlm := List.mem_of_getElem? hlt
          have es2 : (ts.take (j + 1)).foldl (fun c l => rowC ts m c l) c = rowC ts m ((ts.take j).foldl (fun c l => rowC ts m c l) c) l := by rw [List.take_succ_eq_append_getElem hj, List.foldl_append, el]; rfl
          generalize (ts.take j).foldl (fun c l => rowC ts m c l) c = c2 at d es2
          walk_at "ev"
          unfold rd__law_closure_b5
          walk_at "ev"
          rw [etd]
          walk_at "ev"
          refine ⟨fun k σ hh => ∃ kvs y4, hh = up h fd (.dic kvs) ∧ DPs kvs (Sq ts) ((ts.take k).foldl (fun c r => stepC m c l r) c2) ∧ kvs.length ≤ 10000 ∧ σ = [some (bsD B), some (.ref tl), some (.ref fd), some (.str l), y4, x5, some (.str m)], Lw.of ⟨kvs, _, rfl, d, hl, rfl⟩, fun i σ hh ⟨kvs, _, e, _⟩ => by rw [e]; exact etd kvs, ?_, ?_⟩
          · rintro k x σ hh hx ⟨kvs, y4, rfl, d, hl, rfl⟩
            rw [List.getElem?_map] at hx
            obtain ⟨r, hrt, rfl⟩ := Option.map_eq_some_iff.mp hx
            obtain ⟨hk, er⟩ := List.getElem?_eq_some_iff.mp hrt
            have hrm := List.mem_of_getElem? hrt
            have es3 : (ts.take (k + 1)).foldl (fun c r => stepC m c l r) c2 = stepC m ((ts.take k).foldl (fun c r => stepC m c l r) c2) l r := by rw [List.take_succ_eq_append_getElem hk, List.foldl_append, er]; rfl
            generalize (ts.take k).foldl (fun c r => stepC m c l r) c2 = c3 at d es3
            have m1 : Sq ts (l, r) := ⟨hlm, hrm⟩
            have m2 : Sq ts (l, m) := ⟨hlm, hm⟩
            have m3 : Sq ts (m, r) := ⟨hm, hrm⟩
            walk_at "ev"
            unfold rd__law_closure_b6
            walk_at "ev"
            refine ⟨by show 2 ≤ sizeLine; decide, ?_⟩
            rw [up_same]
            walk_at "ev"
            rw [← v_ixDic, dic_pk d (p := (l, r)) m1]
            refine ⟨by show 2 ≤ sizeLine; decide, ?_⟩
            rw [up_same]
            walk_at "ev"
            rw [← v_ixDic, dic_pk d (p := (l, m)) m2]
            refine ⟨by show 2 ≤ sizeLine; decide, ?_⟩
            rw [up_same]
            walk_at "ev"
            rw [← v_ixDic, dic_pk d (p := (m, r)) m3]
            walk_at "ev"
            refine ⟨by show 2 ≤ sizeLine; decide, ?_⟩
            rw [up_same]
            walk_at "ev"
            obtain ⟨d2, hl2⟩ := d.upd (q := (l, r)) m1 (mn (c3 (l, r)) (c3 (l, m) + c3 (m, r)))
            exact ⟨d.fit (l, r), sl_lt (by omega), Lw.of ⟨_, _, up_up, by rw [es3]; exact d2, by rw [← hl2] at hl; exact hl, rfl⟩⟩
          · rintro σ hh ⟨kvs, y4, rfl, d, hl, rfl⟩
            rw [List.length_map, List.take_length] at d
            exact Lw.of ⟨kvs, _, _, rfl, by rw [es2]; exact d, hl, rfl⟩
        · rintro σ hh ⟨kvs, y3, y4, rfl, d, hl, rfl⟩
          rw [List.length_map, List.take_length] at d
          exact Lw.of ⟨kvs, _, _, _, _, rfl, by rw [es]; exact d, hl, rfl⟩
      · rintro σ hh ⟨kvs, x3, x4, x5, x6, rfl, d, hl, rfl⟩
        rw [List.length_map, List.take_length] at d
        walk_at "ev"
        unfold rd__law_closure_4
        walk_at "ev"
        exact lh_of (q fd kvs nfd d)
end DL
namespace DL
open PySem PySem.Spec PyProof.Rows L2 BF
local macro_rules | `(tactic| walk_at "ev") => `(tactic| try simp only [e_seq, e_next, e_brk, e_cnt, e_drop, e_ret, e_retN, e_ifS, e_asg, e_gN, e_gSb, e_gTp, e_gCn, e_gNl, e_var, e_varK, e_nth0, e_nthS, e_put0, e_putS, e_c, e_op, e_un, e_call, e_nil, e_cons, e_tup, e_lst, e_test, e_asB, e_tru, e_andT, e_orT, e_notT, e_andV, e_orV, e_notV, e_if, e_aug, e_augS, e_sl, e_part, e_partK, e_noPart, e_bm0, e_bm, e_join, e_yes, e_wipe0, e_wipeS, e_lc, e_for, v_add, v_addS, v_addT, v_iadd, v_sub, v_mul, v_fdiv, v_mod, v_pow, v_shl, v_shr, v_neg, v_lt, v_le, v_gt, v_ge, v_eqI, v_neI, v_eqS, v_neS, v_inS, v_ninS, v_inT, v_ninT, v_inR, v_ninR, v_inSeq, v_seqO, v_seqR, v_seqT, v_seqL, v_ixR, v_ixT, v_ixL, v_ixS, v_atK, v_atSK, v_get, v_getL, v_getK, v_set, v_setL, v_setK, v_on1, v_on2, v_lenR, v_lenT, v_lenL, v_lenS, v_seqK, v_tuple, v_list, v_abs, v_intI, v_intB, v_okL, v_isLst, v_app, v_lstK, v_slS, v_slT, v_join, v_is, v_isnot, v_max, v_min, v_iSeq, v_srcT, v_srcL, v_srcS, v_srcR, v_srcO, v_iRg1, v_rg1, v_truN, v_truB, v_truI, v_truS, v_truR, v_truT, v_truRol, v_truL, v_inRol, v_ninRol, v_inO, v_inOd, v_inDic, v_ixO, v_ixOd, v_ixSeq, v_ixDic, v_dgetK, v_ixStr, v_getO, v_getOd, v_setO, v_setOd, v_setDic, v_lenO, v_lenOd, e_dic0, e_disp, e_pairs0, e_pairsS, e_chain, v_bits, v_iRg3, v_rg3, v_iRg2, v_rg2, v_iEn, v_enT, v_enR, v_enO, v_iZp, v_zpT, v_zpR, v_zpO, v_repr, v_strI, v_strS, v_addR, v_and, v_slR, v_slL, v_ltS, v_srtT, v_srtR, v_srtO, v_srtD, v_revR, v_revT, v_isB, v_iZs, v_zsT, v_eqIS, v_neIS, v_eqB, v_neB])
local macro_rules | `(tactic| walk_at "e0") => `(tactic| try simp only [e_seq, e_brk, e_cnt, e_drop, e_ret, e_retN, e_ifS, e_asg, e_gN, e_gSb, e_gTp, e_gCn, e_gNl, e_var, e_varK, e_nth0, e_nthS, e_put0, e_putS, e_c, e_op, e_un, e_call, e_nil, e_cons, e_tup, e_lst, e_test, e_asB, e_tru, e_andT, e_orT, e_notT, e_andV, e_orV, e_notV, e_if, e_aug, e_augS, e_sl, e_part, e_partK, e_noPart, e_bm0, e_bm, e_join, e_yes, e_wipe0, e_wipeS, e_lc, e_for, v_add, v_addS, v_addT, v_iadd, v_sub, v_mul, v_fdiv, v_mod, v_pow, v_shl, v_shr, v_neg, v_lt, v_le, v_gt, v_ge, v_eqI, v_neI, v_eqS, v_neS, v_inS, v_ninS, v_inT, v_ninT, v_inR, v_ninR, v_inSeq, v_seqO, v_seqR, v_seqT, v_seqL, v_ixR, v_ixT, v_ixL, v_ixS, v_atK, v_atSK, v_get, v_getL, v_getK, v_set, v_setL, v_setK, v_on1, v_on2, v_lenR, v_lenT, v_lenL, v_lenS, v_seqK, v_tuple, v_list, v_abs, v_intI, v_intB, v_okL, v_isLst, v_app, v_lstK, v_slS, v_slT, v_join, v_is, v_isnot, v_max, v_min, v_iSeq, v_srcT, v_srcL, v_srcS, v_srcR, v_srcO, v_iRg1, v_rg1, v_truN, v_truB, v_truI, v_truS, v_truR, v_truT, v_truRol, v_truL, v_inRol, v_ninRol, v_inO, v_inOd, v_inDic, v_ixO, v_ixOd, v_ixSeq, v_ixDic, v_dgetK, v_ixStr, v_getO, v_getOd, v_setO, v_setOd, v_setDic, v_lenO, v_lenOd, e_dic0, e_disp, e_pairs0, e_pairsS, e_chain, v_bits, v_iRg3, v_rg3, v_iRg2, v_rg2, v_iEn, v_enT, v_enR, v_enO, v_iZp, v_zpT, v_zpR, v_zpO, v_repr, v_strI, v_strS, v_addR, v_and, v_slR, v_slL, v_ltS, v_srtT, v_srtR, v_srtO, v_srtD, v_revR, v_revT, v_isB, v_iZs, v_zsT, v_eqIS, v_neIS, v_eqB, v_neB])
theorem terms_congr {B B' : List B1} (h : ∀ x, x ≠ Zs → ((∃ b ∈ B, x = b.1 ∨ x = b.2.1) ↔ ∃ b ∈ B', x = b.1 ∨ x = b.2.1)) : termsF B = termsF B' :=
  sorted_one (le := leT) (fun a b => leT_anti) ((List.perm_ext_iff_of_nodup (terms_nodup B) (terms_nodup B')).mpr fun x => by
    rw [terms_mem, terms_mem]
    constructor
    · rintro ⟨n, e⟩; exact ⟨n, (h x n).mp e⟩
    · rintro ⟨n, e⟩; exact ⟨n, (h x n).mpr e⟩) (terms_pw B) (terms_pw B')
theorem sol_app {B C : List B1} {s : Str → Int} : Sol (B ++ C) s ↔ Sol B s ∧ ∀ b ∈ C, s b.1 ≤ s b.2.1 + b.2.2 := by
  constructor
  · intro S
    exact ⟨⟨S.z, S.lo, S.hi, fun b hb => S.b b (List.mem_append_left _ hb)⟩, fun b hb => S.b b (List.mem_append_right _ hb)⟩
  · rintro ⟨S, h⟩
    refine ⟨S.z, S.lo, S.hi, fun b hb => ?_⟩
    rcases List.mem_append.mp hb with hb | hb
    · exact S.b b hb
    · exact h b hb
theorem terms_opp (B : List B1) (b : B1) : termsF (B ++ [opp b]) = termsF (B ++ [b]) := terms_congr fun x _ => by
  constructor
  · rintro ⟨y, hy, e⟩
    rcases List.mem_append.mp hy with hy | hy
    · exact ⟨y, List.mem_append_left _ hy, e⟩
    · rw [List.mem_singleton.mp hy] at e
      exact ⟨b, by simp, e.symm⟩
  · rintro ⟨y, hy, e⟩
    rcases List.mem_append.mp hy with hy | hy
    · exact ⟨y, List.mem_append_left _ hy, e⟩
    · rw [List.mem_singleton.mp hy] at e
      exact ⟨opp b, by simp, e.symm⟩
theorem opp_opp (b : B1) : opp (opp b) = b := by
  obtain ⟨l, r, g⟩ := b
  show (l, r, -(-g - 1) - 1) = (l, r, g)
  congr 2; omega
theorem least_zero {B : List B1} {s : Str → Int} (L : LeastS B s) {x : Str} (h : x ∉ termsF B) (z : x ≠ Zs) : s x = 0 := by
  have S := L.1
  have no : ∀ b ∈ B, b.1 ≠ x ∧ b.2.1 ≠ x := fun b hb =>
    ⟨fun e => h (terms_mem.mpr ⟨z, b, hb, .inl e.symm⟩), fun e => h (terms_mem.mpr ⟨z, b, hb, .inr e.symm⟩)⟩
  have S' : Sol B (fun y => if y = x then 0 else s y) := by
    refine ⟨?_, fun y => ?_, fun y => ?_, fun b hb => ?_⟩
    · show (if Zs = x then 0 else s Zs) = 0
      rw [if_neg (Ne.symm z)]; exact S.z
    · show 0 ≤ if y = x then 0 else s y
      split
      · exact Int.le_refl 0
      · exact S.lo y
    · show (if y = x then 0 else s y) ≤ 9999
      split
      · decide
      · exact S.hi y
    · show (if b.1 = x then 0 else s b.1) ≤ (if b.2.1 = x then 0 else s b.2.1) + b.2.2
      rw [if_neg (no b hb).1, if_neg (no b hb).2]
      exact S.b b hb
  have := L.2 _ S' x
  have h0 : (if x = x then (0 : Int) else s x) = 0 := if_pos rfl
  have := S.lo x
  omega
def pairsD (T : List Str) (s : Str → Int) : D := .tup (T.map fun t => .tup [.str t, .int (s t)])
theorem fol_breaks {B : List B1} {b : B1} (h : ∃ s, Sol (B ++ [opp b]) s) : ∃ s, LeastS (B ++ [opp b]) s ∧ folD (B ++ [opp b]) = .tup [.str (Str.ofString "breaks"), pairsD (termsF (B ++ [b])) s] := by
  rcases settle_spec (B ++ [opp b]) with ⟨w, e, s, S, hw, m⟩ | ⟨r, e, R⟩
  · refine ⟨s, ⟨S, m⟩, ?_⟩
    unfold folD
    rw [e]
    show D.tup [_, .tup _] = D.tup [_, .tup _]
    rw [terms_opp] at hw ⊢
    congr 4
    refine List.map_congr_left fun t ht => ?_
    rw [hw t (List.mem_cons_of_mem _ ht)]; rfl
  · obtain ⟨s, S⟩ := h
    exact absurd S (ring_no R s)
theorem fol_follows {B : List B1} {b : B1} (h : ¬ ∃ s, Sol (B ++ [opp b]) s) : ∃ R, folD (B ++ [opp b]) = .tup [.str (Str.ofString "follows"), bsD R] ∧ R.length ≤ (termsF (B ++ [opp b])).length + 2 ∧ RingD (B ++ [opp b]) R := by
  rcases settle_spec (B ++ [opp b]) with ⟨w, e, s, S, hw, m⟩ | ⟨r, e, R⟩
  · exact absurd ⟨s, S⟩ h
  · refine ⟨r.reverse, ?_, ?_, ringD_of R⟩
    · unfold folD; rw [e]; rfl
    · rw [List.length_reverse]; exact settleGo_len _ _ e
/-- worths told as bounds -/
def fixF (T : List Str) (s : Str → Int) : List B1 := (T.map fun t => (t, Zs, s t)) ++ T.map fun t => (Zs, t, -s t)
theorem fix_mem {T : List Str} {s : Str → Int} {b : B1} : b ∈ fixF T s ↔ ∃ t ∈ T, b = (t, Zs, s t) ∨ b = (Zs, t, -s t) := by
  unfold fixF
  rw [List.mem_append, List.mem_map, List.mem_map]
  constructor
  · rintro (⟨t, ht, e⟩ | ⟨t, ht, e⟩)
    · exact ⟨t, ht, .inl e.symm⟩
    · exact ⟨t, ht, .inr e.symm⟩
  · rintro ⟨t, ht, e | e⟩
    · exact .inl ⟨t, ht, e.symm⟩
    · exact .inr ⟨t, ht, e.symm⟩
theorem fix_len (T : List Str) (s : Str → Int) : (fixF T s).length = 2 * T.length := by
  unfold fixF; rw [List.length_append, List.length_map, List.length_map]; omega
theorem sol_fix {B : List B1} {T : List Str} {s s' : Str → Int} : Sol (B ++ fixF T s) s' ↔ Sol B s' ∧ ∀ t ∈ T, s' t = s t := by
  rw [sol_app]
  constructor
  · rintro ⟨S, h⟩
    refine ⟨S, fun t ht => ?_⟩
    have h1 := h (t, Zs, s t) (fix_mem.mpr ⟨t, ht, .inl rfl⟩)
    have h2 := h (Zs, t, -s t) (fix_mem.mpr ⟨t, ht, .inr rfl⟩)
    have z := S.z
    have h1 : s' t ≤ s' Zs + s t := h1
    have h2 : s' Zs ≤ s' t + -s t := h2
    omega
  · rintro ⟨S, h⟩
    refine ⟨S, fun b hb => ?_⟩
    have z := S.z
    obtain ⟨t, ht, rfl | rfl⟩ := fix_mem.mp hb
    · have := h t ht
      show s' t ≤ s' Zs + s t
      omega
    · have := h t ht
      show s' Zs ≤ s' t + -s t
      omega
theorem sol_comm {B C : List B1} {s : Str → Int} : Sol (B ++ C) s ↔ Sol (C ++ B) s := by
  rw [sol_app, sol_app]
  constructor
  · rintro ⟨S, h⟩; exact ⟨⟨S.z, S.lo, S.hi, h⟩, S.b⟩
  · rintro ⟨S, h⟩; exact ⟨⟨S.z, S.lo, S.hi, h⟩, S.b⟩
theorem terms_fix {B C : List B1} {b : B1} {s : Str → Int} (h : ∀ x, x ≠ Zs → ((∃ y ∈ C, x = y.1 ∨ x = y.2.1) ↔ (∃ y ∈ B ++ fixF (termsF (B ++ [b])) s, x = y.1 ∨ x = y.2.1) ∨ x = b.1 ∨ x = b.2.1)) : termsF C = termsF (B ++ [b]) := terms_congr fun x hx => by
  rw [h x hx]
  constructor
  · rintro (⟨y, hy, e⟩ | e)
    · rcases List.mem_append.mp hy with hy | hy
      · exact ⟨y, List.mem_append_left _ hy, e⟩
      · obtain ⟨t, ht, rfl | rfl⟩ := fix_mem.mp hy
        · rcases e with e | e
          · rw [e]; exact (terms_mem.mp ht).2
          · exact absurd e hx
        · rcases e with e | e
          · exact absurd e hx
          · rw [e]; exact (terms_mem.mp ht).2
    · exact ⟨b, by simp, e⟩
  · rintro ⟨y, hy, e⟩
    rcases List.mem_append.mp hy with hy | hy
    · exact .inl ⟨y, List.mem_append_left _ hy, e⟩
    · rw [List.mem_singleton.mp hy] at e
      exact .inr e
theorem terms_fix1 (B : List B1) (b : B1) (s : Str → Int) : termsF (B ++ fixF (termsF (B ++ [b])) s) = termsF (B ++ [b]) := terms_fix (s := s) fun x hx => by
  constructor
  · exact .inl
  · rintro (h | h)
    · exact h
    · have m : x ∈ termsF (B ++ [b]) := terms_mem.mpr ⟨hx, b, by simp, h⟩
      exact ⟨(x, Zs, s x), List.mem_append_right _ (fix_mem.mpr ⟨x, m, .inl rfl⟩), .inl rfl⟩
theorem terms_fix2 (B : List B1) (b : B1) (s : Str → Int) : termsF ((fixF (termsF (B ++ [b])) s ++ B) ++ [b]) = termsF (B ++ [b]) := terms_fix (s := s) fun x hx => by
  constructor
  · rintro ⟨y, hy, e⟩
    rcases List.mem_append.mp hy with hy | hy
    · refine .inl ⟨y, ?_, e⟩
      rcases List.mem_append.mp hy with hy | hy
      · exact List.mem_append_right _ hy
      · exact List.mem_append_left _ hy
    · rw [List.mem_singleton.mp hy] at e; exact .inr e
  · rintro (⟨y, hy, e⟩ | h)
    · refine ⟨y, List.mem_append_left _ ?_, e⟩
      rcases List.mem_append.mp hy with hy | hy
      · exact List.mem_append_right _ hy
      · exact List.mem_append_left _ hy
    · exact ⟨b, by simp, h⟩
/-- dicts of worths, as they are made -/
def wk (L : List Str) (s : Str → Int) : Kvs := L.map fun x => (.str x, .int (s x))
theorem wk_get {s : Str → Int} : ∀ {L : List Str} {x : Str}, x ∈ L → dget (wk L s) (.str x) = some (.int (s x))
  | y :: L, x, h => by
    unfold dget wk
    rw [List.map_cons, List.find?_cons]
    by_cases e : y = x
    · subst e; simp
    · rw [show decide (nk (D.str y) = nk (D.str x)) = false from decide_eq_false fun z => e (nk_str.mp z)]
      have hm : x ∈ L := by
        rcases List.mem_cons.mp h with z | z
        · exact absurd z.symm e
        · exact z
      exact wk_get hm
theorem wk_none {s : Str → Int} : ∀ {L : List Str} {x : Str}, x ∉ L → dget (wk L s) (.str x) = none
  | [], _, _ => rfl
  | y :: L, x, h => by
    unfold dget wk
    rw [List.map_cons, List.find?_cons]
    rw [show decide (nk (D.str y) = nk (D.str x)) = false from decide_eq_false fun z => h (by rw [nk_str.mp z]; simp)]
    exact wk_none fun z => h (List.mem_cons_of_mem _ z)
theorem wk_all (L : List Str) (s : Str → Int) : (wk L s).all (fun p => (scaK p.1).isSome) = true := by
  rw [List.all_eq_true]
  intro p hp
  obtain ⟨x, _, rfl⟩ := List.mem_map.mp hp
  rfl
theorem wk_fit (L : List Str) (s : Str → Int) (x : Str) : fit (wk L s) (.str x) = true := by
  unfold DL.fit
  rw [wk_all]; rfl
theorem wk_put {L : List Str} {s : Str → Int} {x : Str} (h : x ∉ L) : dset (wk L s) (.str x) (.int (s x)) = wk (L ++ [x]) s := by
  unfold dset
  rw [wk_none h, if_neg (by decide)]
  unfold wk
  rw [List.map_append]; rfl
theorem wk_ix {L : List Str} {s : Str → Int} {x : Str} (hx : x ∈ L) {h : MH} {Q : KD} : ixDic (wk L s) (.str x) h Q = Q (.int (s x)) h := by
  rw [v_ixDic, wk_fit, wk_get hx]
  simp [v_dgetK]
theorem wk_in {L : List Str} {s : Str → Int} {x : Str} {h : MH} {Q : KD} {a : Addr} (e : h a = some (.dic (wk L s))) : inD (.str x) (.ref a) h Q = Q (.bool (decide (x ∈ L))) h := by
  rw [v_inR, e, v_inOd, v_inDic, wk_fit]
  by_cases m : x ∈ L
  · rw [wk_get m, decide_eq_true m]; simp
  · rw [wk_none m, decide_eq_false m]; simp
theorem wk_same {L : List Str} {s : Str → Int} (ne : L ≠ []) (nd : L.Nodup) {a b : Addr} {h : MH} {k : Prop} (ea : h a = some (.dic (wk L s))) (eb : h b = some (.dic (wk L s))) (hk : k) : dicEq h (.ref a) (.ref b) k := by
  have ne' : wk L s ≠ [] := fun z => ne (by unfold wk at z; exact List.map_eq_nil_iff.mp z)
  have al := List.all_eq_true.mp (wk_all L s)
  refine ⟨a, b, _, _, rfl, rfl, ea, eb, ne', ne', rfl, al, al, fun p hp => ?_, hk⟩
  obtain ⟨x, hx, rfl⟩ := List.mem_map.mp hp
  exact ⟨wk_get hx, rfl⟩
theorem wk_len (L : List Str) (s : Str → Int) : (wk L s).length = L.length := by unfold wk; rw [List.length_map]
/-- how many keys a dict has at least -/
theorem keys_le : ∀ (l : List Str) (kvs : Kvs), l.Nodup → (∀ x ∈ l, (dget kvs (.str x)).isSome = true) → l.length ≤ kvs.length
  | [], _, _, _ => Nat.zero_le _
  | x :: l, kvs, nd, h => by
    rw [List.nodup_cons] at nd
    have hx := h x (by simp)
    have ih := keys_le l (kvs.filter fun p => !decide (nk p.1 = nk (.str x))) nd.2 fun y hy => by
      have hy' := h y (List.mem_cons_of_mem _ hy)
      have ne : y ≠ x := fun z => nd.1 (z ▸ hy)
      unfold dget at hy' ⊢
      rw [Option.isSome_map] at hy' ⊢
      rw [List.find?_isSome] at hy' ⊢
      obtain ⟨p, hp, e⟩ := hy'
      have e := of_decide_eq_true e
      refine ⟨p, List.mem_filter.mpr ⟨hp, ?_⟩, decide_eq_true e⟩
      rw [e, decide_eq_false fun z => ne (nk_str.mp z)]; rfl
    have lt : (kvs.filter fun p => !decide (nk p.1 = nk (.str x))).length < kvs.length := by
      unfold dget at hx
      rw [Option.isSome_map, List.find?_isSome] at hx
      obtain ⟨p, hp, e⟩ := hx
      rw [List.length_filter_lt_length_iff_exists]
      exact ⟨p, hp, by rw [e]; decide⟩
    rw [List.length_cons]; omega
theorem least_none {B : List B1} {kvs : Kvs} {f : Str → Option Int} {s : Str → Int} (d : DSt kvs (mp D.int f)) (hf : ∀ x ∈ Zs :: termsF B, f x = some (s x)) (hl : kvs.length = (termsF B).length + 1) {x : Str} (hx : x ∉ Zs :: termsF B) : f x = none := by
  cases e : f x with
  | none => rfl
  | some v =>
    have nd : (x :: Zs :: termsF B).Nodup := by
      rw [List.nodup_cons]
      refine ⟨hx, ?_⟩
      rw [List.nodup_cons]
      exact ⟨fun z => (terms_mem.mp z).1 rfl, terms_nodup B⟩
    have := keys_le _ kvs nd fun y hy => by
      rw [d.get y]
      unfold mp
      rcases List.mem_cons.mp hy with rfl | hy
      · rw [e]; rfl
      · rw [hf y hy]; rfl
    simp only [List.length_cons] at this
    omega
end DL
namespace DL
open PySem PySem.Spec PyProof.Rows L2 BF
local macro_rules | `(tactic| walk_at "ev") => `(tactic| try simp only [e_seq, e_next, e_brk, e_cnt, e_drop, e_ret, e_retN, e_ifS, e_asg, e_gN, e_gSb, e_gTp, e_gCn, e_gNl, e_var, e_varK, e_nth0, e_nthS, e_put0, e_putS, e_c, e_op, e_un, e_call, e_nil, e_cons, e_tup, e_lst, e_test, e_asB, e_tru, e_andT, e_orT, e_notT, e_andV, e_orV, e_notV, e_if, e_aug, e_augS, e_sl, e_part, e_partK, e_noPart, e_bm0, e_bm, e_join, e_yes, e_wipe0, e_wipeS, e_lc, e_for, v_add, v_addS, v_addT, v_iadd, v_sub, v_mul, v_fdiv, v_mod, v_pow, v_shl, v_shr, v_neg, v_lt, v_le, v_gt, v_ge, v_eqI, v_neI, v_eqS, v_neS, v_inS, v_ninS, v_inT, v_ninT, v_inR, v_ninR, v_inSeq, v_seqO, v_seqR, v_seqT, v_seqL, v_ixR, v_ixT, v_ixL, v_ixS, v_atK, v_atSK, v_get, v_getL, v_getK, v_set, v_setL, v_setK, v_on1, v_on2, v_lenR, v_lenT, v_lenL, v_lenS, v_seqK, v_tuple, v_list, v_abs, v_intI, v_intB, v_okL, v_isLst, v_app, v_lstK, v_slS, v_slT, v_join, v_is, v_isnot, v_max, v_min, v_iSeq, v_srcT, v_srcL, v_srcS, v_srcR, v_srcO, v_iRg1, v_rg1, v_truN, v_truB, v_truI, v_truS, v_truR, v_truT, v_truRol, v_truL, v_inRol, v_ninRol, v_inO, v_inOd, v_inDic, v_ixO, v_ixOd, v_ixSeq, v_ixDic, v_dgetK, v_ixStr, v_getO, v_getOd, v_setO, v_setOd, v_setDic, v_lenO, v_lenOd, e_dic0, e_disp, e_pairs0, e_pairsS, e_chain, v_bits, v_iRg3, v_rg3, v_iRg2, v_rg2, v_iEn, v_enT, v_enR, v_enO, v_iZp, v_zpT, v_zpR, v_zpO, v_repr, v_strI, v_strS, v_addR, v_and, v_slR, v_slL, v_ltS, v_srtT, v_srtR, v_srtO, v_srtD, v_revR, v_revT, v_isB, v_iZs, v_zsT, v_eqIS, v_neIS, v_eqB, v_neB])
def sp__law_is_ring : P1 := fun ds h Q => ∃ (B R : List B1), ds = [bsD B, bsD R] ∧ B.length ≤ 150 ∧ R.length ≤ 10000 ∧ RingD B R ∧ Q (.bool true) h
theorem len__law_is_ring : ∀ ds h Q, sp__law_is_ring ds h Q → ds.length = 2 := fun ds h Q ⟨_, _, e, _⟩ => by rw [e]; rfl
theorem sat__law_is_ring : ∀ ds h Q, sp__law_is_ring ds h Q → rd__law_is_ring sp__law_ranged sp__law_is_int (endN Q) (startD 5 ds) h := by
  rintro ds h Q ⟨B, R, rfl, hB, hR, G, q⟩
  show rd__law_is_ring sp__law_ranged sp__law_is_int (endN Q) [some (bsD B), some (bsD R), none, none, none] h
  have ne := G.ne
  have tb : ∀ b : B1, ∀ h : MH, tyN h (bD b) = some "tuple" := fun _ _ => rfl
  have ts : ∀ b : List B1, ∀ h : MH, tyN h (bsD b) = some "tuple" := fun _ _ => rfl
  unfold rd__law_is_ring
  walk_at "ev"
  rw [isi_eval (t := "tuple") (n := "tuple") (b := true) (ts R h) (by decide)]
  walk_at "ev"
  rw [if_neg (by decide), bs_len]
  walk_at "ev"
  rw [if_neg (by rw [decide_eq_true_eq]; omega)]
  unfold rd__law_is_ring_1
  walk_at "ev"
  refine ⟨B, rfl, by omega, fun rl nrl => ?_⟩
  walk_at "ev"
  unfold rd__law_is_ring_2
  walk_at "ev"
  show srcD (.tup (R.map bD)) _ _
  rw [v_srcT]
  refine ⟨fun i σ hh => hh = up h rl (.lst ((rowsF B (termsF B)).map bD)) ∧ ∃ x, σ = [some (bsD B), some (bsD R), some (.ref rl), x, none], Lw.of ⟨rfl, _, rfl⟩, fun _ _ _ _ => trivial, ?_, ?_⟩
  · rintro i x σ hh hx ⟨rfl, u, rfl⟩
    rw [List.getElem?_map] at hx
    obtain ⟨b, hb, rfl⟩ := Option.map_eq_some_iff.mp hx
    walk_at "ev"
    unfold rd__law_is_ring_b1
    walk_at "ev"
    rw [isi_eval (t := "tuple") (n := "tuple") (b := true) (tb b _) (by decide)]
    walk_at "ev"
    rw [if_neg (by decide)]
    have lb : ∀ (h : MH) (Q : KD), lenD (bD b) h Q = Q (.int 3) h := fun _ _ => rfl
    rw [lb]
    walk_at "ev"
    rw [if_neg (by decide), bD_2]
    refine ⟨.int b.2.2, rfl, rfl, ?_⟩
    rw [show isIntB (.int b.2.2) = true from rfl]
    walk_at "ev"
    rw [if_neg (by decide), up_same]
    walk_at "ev"
    refine ⟨pure_bD2 b, pures_bDs _, ?_⟩
    rw [any_bD (G.mem b (List.mem_of_getElem? hb)), if_neg (by decide)]
    exact Lw.of ⟨rfl, _, rfl⟩
  · rintro σ hh ⟨rfl, u, rfl⟩
    walk_at "ev"
    unfold rd__law_is_ring_3
    walk_at "ev"
    rw [bs_len]
    walk_at "ev"
    refine ⟨bnd62 (by omega), ?_⟩
    refine ⟨fun i σ hh => hh = up h rl (.lst ((rowsF B (termsF B)).map bD)) ∧ ∃ y, σ = [some (bsD B), some (bsD R), some (.ref rl), u, y], Lw.of ⟨rfl, _, rfl⟩, fun _ _ _ _ => trivial, ?_, ?_⟩
    · rintro i x σ hh hx ⟨rfl, w, rfl⟩
      obtain ⟨hi, rfl⟩ := rg_at hx
      have hk := List.getElem?_eq_getElem hi
      obtain ⟨cc, hc, e⟩ := G.nx i _ hk
      walk_at "ev"
      unfold rd__law_is_ring_b2
      walk_at "ev"
      rw [bs_at hk, bD_1]
      have e1 : (i : Int) + 1 = ((i + 1 : Nat) : Int) := by omega
      rw [bs_len]
      walk_at "ev"
      rw [e1]
      by_cases z : i + 1 < R.length
      · rw [if_pos z] at hc
        rw [if_pos (decide_eq_true (by omega)), bs_at hc, bD_0]
        walk_at "ev"
        rw [decide_eq_true e, if_neg (by decide)]
        exact Lw.of ⟨rfl, _, rfl⟩
      · rw [if_neg z] at hc
        rw [if_neg (by rw [decide_eq_true_eq]; omega)]
        show ixD (bsD R) (.int ((0 : Nat) : Int)) _ _
        rw [bs_at hc, bD_0]
        walk_at "ev"
        rw [decide_eq_true e, if_neg (by decide)]
        exact Lw.of ⟨rfl, _, rfl⟩
    · rintro σ hh ⟨rfl, w, rfl⟩
      walk_at "ev"
      unfold rd__law_is_ring_4
      walk_at "ev"
      show srcD (.tup (R.map bD)) _ _
      rw [v_srcT]
      refine lcT_t R bD (fun b => .int b.2.2) rfl (Nat.le_of_lt (sl_lt (by omega))) trivial (fun b hb Q' hQ => ?_) fun p np => ?_
      · walk_at "ev"
        rw [bD_2]
        exact hQ _ le.refl
      · walk_at "ev"
        have e : R.map (fun b => D.int b.2.2) = (R.map (·.2.2)).map D.int := by rw [List.map_map]; rfl
        refine v_sum (by rw [up_same, e]) ?_
        walk_at "ev"
        rw [decide_eq_true G.sum]
        exact lh_le ((le.up nrl).trans (le.up np)) q
end DL
namespace DL
open PySem PySem.Spec PyProof.Rows L2 BF
local macro_rules | `(tactic| walk_at "ev") => `(tactic| try simp only [e_seq, e_next, e_brk, e_cnt, e_drop, e_ret, e_retN, e_ifS, e_asg, e_gN, e_gSb, e_gTp, e_gCn, e_gNl, e_var, e_varK, e_nth0, e_nthS, e_put0, e_putS, e_c, e_op, e_un, e_call, e_nil, e_cons, e_tup, e_lst, e_test, e_asB, e_tru, e_andT, e_orT, e_notT, e_andV, e_orV, e_notV, e_if, e_aug, e_augS, e_sl, e_part, e_partK, e_noPart, e_bm0, e_bm, e_join, e_yes, e_wipe0, e_wipeS, e_lc, e_for, v_add, v_addS, v_addT, v_iadd, v_sub, v_mul, v_fdiv, v_mod, v_pow, v_shl, v_shr, v_neg, v_lt, v_le, v_gt, v_ge, v_eqI, v_neI, v_eqS, v_neS, v_inS, v_ninS, v_inT, v_ninT, v_inR, v_ninR, v_inSeq, v_seqO, v_seqR, v_seqT, v_seqL, v_ixR, v_ixT, v_ixL, v_ixS, v_atK, v_atSK, v_get, v_getL, v_getK, v_set, v_setL, v_setK, v_on1, v_on2, v_lenR, v_lenT, v_lenL, v_lenS, v_seqK, v_tuple, v_list, v_abs, v_intI, v_intB, v_okL, v_isLst, v_app, v_lstK, v_slS, v_slT, v_join, v_is, v_isnot, v_max, v_min, v_iSeq, v_srcT, v_srcL, v_srcS, v_srcR, v_srcO, v_iRg1, v_rg1, v_truN, v_truB, v_truI, v_truS, v_truR, v_truT, v_truRol, v_truL, v_inRol, v_ninRol, v_inO, v_inOd, v_inDic, v_ixO, v_ixOd, v_ixSeq, v_ixDic, v_dgetK, v_ixStr, v_getO, v_getOd, v_setO, v_setOd, v_setDic, v_lenO, v_lenOd, e_dic0, e_disp, e_pairs0, e_pairsS, e_chain, v_bits, v_iRg3, v_rg3, v_iRg2, v_rg2, v_iEn, v_enT, v_enR, v_enO, v_iZp, v_zpT, v_zpR, v_zpO, v_repr, v_strI, v_strS, v_addR, v_and, v_slR, v_slL, v_ltS, v_srtT, v_srtR, v_srtO, v_srtD, v_revR, v_revT, v_isB, v_iZs, v_zsT, v_eqIS, v_neIS, v_eqB, v_neB])
local macro_rules | `(tactic| walk_at "e0") => `(tactic| try simp only [e_seq, e_brk, e_cnt, e_drop, e_ret, e_retN, e_ifS, e_asg, e_gN, e_gSb, e_gTp, e_gCn, e_gNl, e_var, e_varK, e_nth0, e_nthS, e_put0, e_putS, e_c, e_op, e_un, e_call, e_nil, e_cons, e_tup, e_lst, e_test, e_asB, e_tru, e_andT, e_orT, e_notT, e_andV, e_orV, e_notV, e_if, e_aug, e_augS, e_sl, e_part, e_partK, e_noPart, e_bm0, e_bm, e_join, e_yes, e_wipe0, e_wipeS, e_lc, e_for, v_add, v_addS, v_addT, v_iadd, v_sub, v_mul, v_fdiv, v_mod, v_pow, v_shl, v_shr, v_neg, v_lt, v_le, v_gt, v_ge, v_eqI, v_neI, v_eqS, v_neS, v_inS, v_ninS, v_inT, v_ninT, v_inR, v_ninR, v_inSeq, v_seqO, v_seqR, v_seqT, v_seqL, v_ixR, v_ixT, v_ixL, v_ixS, v_atK, v_atSK, v_get, v_getL, v_getK, v_set, v_setL, v_setK, v_on1, v_on2, v_lenR, v_lenT, v_lenL, v_lenS, v_seqK, v_tuple, v_list, v_abs, v_intI, v_intB, v_okL, v_isLst, v_app, v_lstK, v_slS, v_slT, v_join, v_is, v_isnot, v_max, v_min, v_iSeq, v_srcT, v_srcL, v_srcS, v_srcR, v_srcO, v_iRg1, v_rg1, v_truN, v_truB, v_truI, v_truS, v_truR, v_truT, v_truRol, v_truL, v_inRol, v_ninRol, v_inO, v_inOd, v_inDic, v_ixO, v_ixOd, v_ixSeq, v_ixDic, v_dgetK, v_ixStr, v_getO, v_getOd, v_setO, v_setOd, v_setDic, v_lenO, v_lenOd, e_dic0, e_disp, e_pairs0, e_pairsS, e_chain, v_bits, v_iRg3, v_rg3, v_iRg2, v_rg2, v_iEn, v_enT, v_enR, v_enO, v_iZp, v_zpT, v_zpR, v_zpO, v_repr, v_strI, v_strS, v_addR, v_and, v_slR, v_slL, v_ltS, v_srtT, v_srtR, v_srtO, v_srtD, v_revR, v_revT, v_isB, v_iZs, v_zsT, v_eqIS, v_neIS, v_eqB, v_neB])
def sp__law_is_rows : P1 := fun ds h Q => ∃ (T : List Str) (s : Str → Int), ds = [pairsD T s, .str (Str.ofString "si")] ∧ T.length ≤ 1000 ∧ Q (.bool true) h
theorem len__law_is_rows : ∀ ds h Q, sp__law_is_rows ds h Q → ds.length = 2 := fun ds h Q ⟨_, _, e, _⟩ => by rw [e]; rfl
theorem signs_si : signs (Str.ofString "si") = [.str (Str.ofString "s"), .str (Str.ofString "i")] := rfl
theorem sat__law_is_rows : ∀ ds h Q, sp__law_is_rows ds h Q → rd__law_is_rows sp__law_is_int (endN Q) (startD 5 ds) h := by
  rintro ds h Q ⟨T, s, rfl, hT, q⟩
  show rd__law_is_rows sp__law_is_int (endN Q) [some (pairsD T s), some (.str (Str.ofString "si")), none, none, none] h
  unfold rd__law_is_rows
  walk_at "e0"
  rw [isi_eval (t := "tuple") (n := "tuple") (b := true) rfl (by decide)]
  walk_at "e0"
  rw [if_neg (by decide), e_next]
  unfold rd__law_is_rows_1
  walk_at "ev"
  show srcD (.tup (T.map fun t => .tup [.str t, .int (s t)])) _ _
  rw [v_srcT]
  refine ⟨fun i σ hh => hh = h ∧ ∃ x2 x3 x4, σ = [some (pairsD T s), some (.str (Str.ofString "si")), x2, x3, x4], Lw.of ⟨rfl, _, _, _, rfl⟩, fun _ _ _ _ => trivial, ?_, ?_⟩
  · rintro i x σ hh hx ⟨rfl, x2, x3, x4, rfl⟩
    rw [List.getElem?_map] at hx
    obtain ⟨t, ht, rfl⟩ := Option.map_eq_some_iff.mp hx
    walk_at "ev"
    unfold rd__law_is_rows_b1
    walk_at "e0"
    rw [isi_eval (t := "tuple") (n := "tuple") (b := true) rfl (by decide)]
    walk_at "e0"
    have l2 : (Str.ofString "si").length = 2 := rfl
    rw [if_neg (by decide), l2, if_neg (by simp), e_next]
    unfold rd__law_is_rows_b1_1
    walk_at "ev"
    rw [signs_si]
    show forT [.tup [.str t, .str (Str.ofString "s")], .tup [.int (s t), .str (Str.ofString "i")]] _ _ _ _ _ _
    refine ⟨fun i σ h' => h' = hh ∧ ∃ x3 x4, σ = [some (pairsD T s), some (.str (Str.ofString "si")), some (.tup [.str t, .int (s t)]), x3, x4], Lw.of ⟨rfl, _, _, rfl⟩, fun _ _ _ _ => trivial, ?_, ?_⟩
    · rintro j y σ h' hy ⟨rfl, y3, y4, rfl⟩
      have ss : decide (Str.ofString "s" = Str.ofString "s") = true := decide_eq_true rfl
      have si : decide (Str.ofString "s" = Str.ofString "i") = false := by decide
      have st : decide (Str.ofString "s" = Str.ofString "t") = false := by decide
      have sb : decide (Str.ofString "s" = Str.ofString "b") = false := by decide
      have is' : decide (Str.ofString "i" = Str.ofString "s") = false := by decide
      have ii : decide (Str.ofString "i" = Str.ofString "i") = true := decide_eq_true rfl
      have it : decide (Str.ofString "i" = Str.ofString "t") = false := by decide
      have ib : decide (Str.ofString "i" = Str.ofString "b") = false := by decide
      match j, hy with
      | 0, hy =>
        cases hy
        walk_at "e0"
        refine ⟨rfl, ?_⟩
        unfold rd__law_is_rows_b2
        walk_at "e0"
        simp only [ss, si, if_true, Bool.false_eq_true, if_false]
        rw [isi_eval (t := "str") (n := "str") (b := true) rfl (by decide)]
        walk_at "e0"
        simp only [Bool.not_true, Bool.false_eq_true, if_false]
        rw [e_next]
        unfold rd__law_is_rows_b2_1
        walk_at "e0"
        simp only [st, sb, Bool.false_eq_true, if_false]
        rw [e_next]
        exact Lw.of ⟨rfl, _, _, rfl⟩
      | 1, hy =>
        cases hy
        walk_at "e0"
        refine ⟨rfl, ?_⟩
        unfold rd__law_is_rows_b2
        walk_at "e0"
        simp only [is', ii, if_true, Bool.false_eq_true, if_false]
        refine ⟨.int (s t), rfl, rfl, ?_⟩
        rw [show isIntB (.int (s t)) = true from rfl]
        walk_at "e0"
        simp only [Bool.not_true, Bool.false_eq_true, if_false]
        rw [e_next]
        unfold rd__law_is_rows_b2_1
        walk_at "e0"
        simp only [it, ib, Bool.false_eq_true, if_false]
        rw [e_next]
        exact Lw.of ⟨rfl, _, _, rfl⟩
      | n + 2, hy => cases hy
    · rintro σ h' ⟨rfl, y3, y4, rfl⟩
      exact Lw.of ⟨rfl, _, _, _, rfl⟩
  · rintro σ hh ⟨rfl, x2, x3, x4, rfl⟩
    unfold rd__law_is_rows_2
    walk_at "ev"
    exact lh_of q
theorem eqv_refl_strs : ∀ l : List Str, PyData.eqvAll (pds (l.map D.str)) (pds (l.map D.str)) = true
  | [] => by simp only [List.map_nil, pds, PyData.eqvAll]
  | x :: l => by
    rw [List.map_cons]
    simp only [pds, PyData.eqvAll, eqv_refl_strs l, pd, eqv_str, decide_true, Bool.and_self]
theorem ne_strs {p q : Addr} {l : List Str} {h : MH} {Q : KD} (e1 : h p = some (.lst (l.map D.str))) (e2 : h q = some (.lst (l.map D.str))) (k : Q (.bool false) h) : neD (.ref p) (.ref q) h Q := by
  have v : ∀ {a : Addr}, h a = some (.lst (l.map D.str)) → view h (.ref a) = some (.list (pds (l.map D.str))) := fun {a} e => by
    show viewO (h a) = _
    rw [e]
    show viewL (l.map D.str) = _
    unfold viewL
    rw [if_pos (pures_strs _ _)]
  show eqvO (view h (.ref p)) (view h (.ref q)) _
  rw [v e1, v e2]
  show Q (.bool (!PyData.eqv (.list _) (.list _))) h
  have : PyData.eqv (.list (pds (l.map D.str))) (.list (pds (l.map D.str))) = true := by
    simp only [PyData.eqv]; exact eqv_refl_strs l
  rw [this]; exact k
theorem sortS_eq {l m : List Str} (p : l.Perm m) : sortS l = sortS m := sorted_one (le := leT) (fun a b => leT_anti) ((sortS_perm l).trans (p.trans (sortS_perm m).symm)) (sortS_pw l) (sortS_pw m)
theorem wk_inO {L : List Str} {s : Str → Int} {x : Str} {k : Bool → Prop} : inO (.str x) k (some (.dic (wk L s))) = k (decide (x ∈ L)) := by
  rw [v_inOd, v_inDic, wk_fit]
  by_cases m : x ∈ L
  · rw [wk_get m, decide_eq_true m]; simp
  · rw [wk_none m, decide_eq_false m]; simp
def sp__law_worths_told : P1 := fun ds h Q => ∃ (B : List B1) (b : B1) (s : Str → Int), ds = [bsD B, bD b, pairsD (termsF (B ++ [b])) s] ∧ B.length ≤ 400 ∧ Sol B s ∧ s b.2.1 + b.2.2 < s b.1 ∧
  ∀ p, h p = none → Q (.ref p) (up h p (.dic (wk (Zs :: termsF (B ++ [b])) s)))
theorem len__law_worths_told : ∀ ds h Q, sp__law_worths_told ds h Q → ds.length = 3 := fun ds h Q ⟨_, _, _, e, _⟩ => by rw [e]; rfl
theorem sat__law_worths_told : ∀ ds h Q, sp__law_worths_told ds h Q → rd__law_worths_told sp__law_is_rows sp__law_terms (endN Q) (startD 9 ds) h := by
  rintro ds h Q ⟨B, b, s, rfl, hB, S, hb, q⟩
  show rd__law_worths_told sp__law_is_rows sp__law_terms (endN Q) [some (bsD B), some (bD b), some (pairsD (termsF (B ++ [b])) s), none, none, none, none, none, none] h
  have hT := terms_len (B ++ [b])
  rw [List.length_append, List.length_singleton] at hT
  have nd := terms_nodup (B ++ [b])
  have zn : Zs ∉ termsF (B ++ [b]) := fun z => (terms_mem.mp z).1 rfl
  have inB : ∀ x y, y ∈ B ++ [b] → (x = y.1 ∨ x = y.2.1) → x ∈ Zs :: termsF (B ++ [b]) := fun x y hy e => by
    by_cases z : x = Zs
    · rw [z]; simp
    · exact List.mem_cons_of_mem _ (terms_mem.mpr ⟨z, y, hy, e⟩)
  generalize hTe : termsF (B ++ [b]) = T at hT nd zn inB q
  unfold rd__law_worths_told
  walk_at "e0"
  refine ⟨T, s, rfl, by omega, ?_⟩
  walk_at "e0"
  rw [if_neg (by decide), e_next]
  unfold rd__law_worths_told_1
  walk_at "ev"
  refine ⟨rfl, by decide, ?_⟩
  intro w nw
  have ew : dmerge [] [(.str (Str.ofString "0"), .int 0)] = wk [Zs] s := by
    show [(D.str Zs, D.int 0)] = [(D.str Zs, D.int (s Zs))]
    rw [S.z]
  rw [ew]
  unfold rd__law_worths_told_2
  walk_at "ev"
  show srcD (.tup (T.map fun t => .tup [.str t, .int (s t)])) _ _
  rw [v_srcT]
  refine ⟨fun i σ hh => hh = up h w (.dic (wk (Zs :: T.take i) s)) ∧ ∃ x4 x5, σ = [some (bsD B), some (bD b), some (pairsD T s), some (.ref w), x4, x5, none, none, none], Lw.of ⟨by rw [List.take_zero], _, _, rfl⟩, fun _ _ _ _ => trivial, ?_, ?_⟩
  · rintro i x σ hh hx ⟨rfl, x4, x5, rfl⟩
    rw [List.getElem?_map] at hx
    obtain ⟨t, ht, rfl⟩ := Option.map_eq_some_iff.mp hx
    obtain ⟨hi, et⟩ := List.getElem?_eq_some_iff.mp ht
    have es : T.take (i + 1) = T.take i ++ [t] := by rw [List.take_succ_eq_append_getElem hi, et]
    have tn : t ∉ Zs :: T.take i := by
      intro z
      rcases List.mem_cons.mp z with z | z
      · exact zn (by rw [← z]; exact List.mem_of_getElem? ht)
      · have nd2 := nd.sublist (List.take_sublist (i + 1) T)
        rw [es, List.nodup_append] at nd2
        exact nd2.2.2 t z t (by simp) rfl
    walk_at "ev"
    refine ⟨rfl, ?_⟩
    unfold rd__law_worths_told_b1
    rw [e_seq, e_ifS, e_orT, e_andT, e_test, e_op]
    walk_at "e0"
    rw [up_same, wk_inO, decide_eq_false tn]
    walk_at "e0"
    have lo := S.lo t
    have hi' := S.hi t
    rw [if_neg (by decide), if_neg (by decide), decide_eq_true lo]
    walk_at "e0"
    rw [if_pos (by trivial), decide_eq_true hi']
    walk_at "e0"
    rw [if_neg (by decide), e_next]
    unfold rd__law_worths_told_b1_1
    walk_at "e0"
    rw [up_same]
    walk_at "e0"
    refine ⟨wk_fit _ _ _, sl_lt (by rw [wk_len, List.length_cons, List.length_take]; omega), ?_⟩
    rw [wk_put tn, up_up]
    refine Lw.of ⟨by rw [es]; rfl, _, _, rfl⟩
  · rintro σ hh ⟨rfl, x4, x5, rfl⟩
    rw [List.length_map, List.take_length]
    unfold rd__law_worths_told_3
    walk_at "e0"
    rw [up_same]
    walk_at "e0"
    have ek : (wk (Zs :: T) s).map (·.1) = (Zs :: T).map D.str := by unfold wk; rw [List.map_map]; rfl
    rw [ek]
    refine ⟨wk_all _ _, pures_strs _ _, alike_strs _, sorts_strs _, by rw [List.length_map, List.length_cons]; exact Nat.le_of_lt (sl_lt (by omega)), fun ys p hp hs np => ?_⟩
    rw [sorted_strs hp hs]
    have wp : w ≠ p := nef up_same np
    have e1 : up (up h w (.dic (wk (Zs :: T) s))) p (.lst ((sortS (Zs :: T)).map D.str)) p = some (.lst ((sortS (Zs :: T)).map D.str)) := up_same
    have e2 : up (up h w (.dic (wk (Zs :: T) s))) p (.lst ((sortS (Zs :: T)).map D.str)) w = some (.dic (wk (Zs :: T) s)) := by rw [up_ne wp]; exact up_same
    have W1 : le (up h w (.dic (wk (Zs :: T) s))) (up (up h w (.dic (wk (Zs :: T) s))) p (.lst ((sortS (Zs :: T)).map D.str))) := le.up np
    generalize up (up h w (.dic (wk (Zs :: T) s))) p (.lst ((sortS (Zs :: T)).map D.str)) = h1 at e1 e2 W1
    walk_at "e0"
    refine ⟨by show 1 ≤ sizeLine; decide, ?_⟩
    have ab : ∀ {h : MH} {Q : KD}, Q (bsD (B ++ [b])) h → addD (bsD B) (.tup [bD b]) h Q := fun {h Q} k => by
      refine ⟨by rw [List.length_map]; exact Nat.le_of_lt (sl_lt (by simp; omega)), ?_⟩
      have e : B.map bD ++ [bD b] = (B ++ [b]).map bD := by rw [List.map_append]; rfl
      rw [e]; exact k
    refine ab ?_
    refine ⟨B ++ [b], rfl, by rw [List.length_append]; simp; omega, fun tl ntl => ?_⟩
    rw [hTe]
    have et : up h1 tl (.lst (T.map D.str)) tl = some (.lst (T.map D.str)) := up_same
    have e1' : up h1 tl (.lst (T.map D.str)) p = some (.lst ((sortS (Zs :: T)).map D.str)) := by rw [up_ne (nef e1 ntl)]; exact e1
    have e2' : up h1 tl (.lst (T.map D.str)) w = some (.dic (wk (Zs :: T) s)) := by rw [up_ne (nef e2 ntl)]; exact e2
    have W2 := W1.trans (le.up (o := .lst (T.map D.str)) ntl)
    generalize up h1 tl (.lst (T.map D.str)) = h2 at et e1' e2' W2
    walk_at "e0"
    refine ⟨by decide, fun zl nzl => ?_⟩
    have ez : up h2 zl (.lst [.str (Str.ofString "0")]) zl = some (.lst [.str (Str.ofString "0")]) := up_same
    have et3 : up h2 zl (.lst [.str (Str.ofString "0")]) tl = some (.lst (T.map D.str)) := by rw [up_ne (nef et nzl)]; exact et
    have e13 : up h2 zl (.lst [.str (Str.ofString "0")]) p = some (.lst ((sortS (Zs :: T)).map D.str)) := by rw [up_ne (nef e1' nzl)]; exact e1'
    have e23 : up h2 zl (.lst [.str (Str.ofString "0")]) w = some (.dic (wk (Zs :: T) s)) := by rw [up_ne (nef e2' nzl)]; exact e2'
    have W3 := W2.trans (le.up (o := .lst [.str (Str.ofString "0")]) nzl)
    generalize up h2 zl (.lst [.str (Str.ofString "0")]) = h3 at ez et3 e13 e23 W3
    refine ⟨_, _, et3, ez, by rw [List.length_map]; exact Nat.le_of_lt (sl_lt (by simp; omega)), fun al nal => ?_⟩
    have ets : T.map D.str ++ [.str (Str.ofString "0")] = (T ++ [Zs]).map D.str := by rw [List.map_append]; rfl
    rw [ets, up_same]
    walk_at "e0"
    have e14 : up h3 al (.lst ((T ++ [Zs]).map D.str)) p = some (.lst ((sortS (Zs :: T)).map D.str)) := by rw [up_ne (nef e13 nal)]; exact e13
    have e24 : up h3 al (.lst ((T ++ [Zs]).map D.str)) w = some (.dic (wk (Zs :: T) s)) := by rw [up_ne (nef e23 nal)]; exact e23
    have W4 := W3.trans (le.up (o := .lst ((T ++ [Zs]).map D.str)) nal)
    generalize up h3 al (.lst ((T ++ [Zs]).map D.str)) = h4 at e14 e24 W4
    refine ⟨pures_strs _ _, alike_strs _, sorts_strs _, by rw [List.length_map, List.length_append]; exact Nat.le_of_lt (sl_lt (by simp; omega)), fun ys p5 hp hs np5 => ?_⟩
    rw [sorted_strs hp hs, sortS_eq (List.perm_append_singleton Zs T)]
    have e15 : up h4 p5 (.lst ((sortS (Zs :: T)).map D.str)) p = some (.lst ((sortS (Zs :: T)).map D.str)) := by rw [up_ne (nef e14 np5)]; exact e14
    have e25 : up h4 p5 (.lst ((sortS (Zs :: T)).map D.str)) w = some (.dic (wk (Zs :: T) s)) := by rw [up_ne (nef e24 np5)]; exact e24
    have e55 : up h4 p5 (.lst ((sortS (Zs :: T)).map D.str)) p5 = some (.lst ((sortS (Zs :: T)).map D.str)) := up_same
    have W5 := W4.trans (le.up (o := .lst ((sortS (Zs :: T)).map D.str)) np5)
    generalize up h4 p5 (.lst ((sortS (Zs :: T)).map D.str)) = h5 at e15 e25 e55 W5
    refine ne_strs e15 e55 ?_
    walk_at "e0"
    rw [if_neg (by decide), e_next]
    unfold rd__law_worths_told_4
    walk_at "ev"
    show srcD (.tup (B.map bD)) _ _
    rw [v_srcT]
    refine ⟨fun i σ hh => hh = h5 ∧ ∃ x6 x7 x8, σ = [some (bsD B), some (bD b), some (pairsD T s), some (.ref w), x4, x5, x6, x7, x8], Lw.of ⟨rfl, _, _, _, rfl⟩, fun _ _ _ _ => trivial, ?_, ?_⟩
    · rintro i x σ hh hx ⟨rfl, x6, x7, x8, rfl⟩
      rw [List.getElem?_map] at hx
      obtain ⟨y, hy, rfl⟩ := Option.map_eq_some_iff.mp hx
      have my := List.mem_of_getElem? hy
      show gTp 3 _ (.tup [.str y.1, .str y.2.1, .int y.2.2]) _ _ _
      walk_at "e0"
      refine ⟨by trivial, ?_⟩
      unfold rd__law_worths_told_b2
      walk_at "e0"
      rw [e25]
      walk_at "e0"
      rw [← v_ixDic, wk_ix (inB _ y (List.mem_append_left _ my) (.inl rfl)), e25]
      walk_at "e0"
      rw [← v_ixDic, wk_ix (inB _ y (List.mem_append_left _ my) (.inr rfl))]
      walk_at "e0"
      have := S.b y my
      rw [if_neg (by rw [decide_eq_true_eq]; omega), e_next]
      exact Lw.of ⟨rfl, _, _, _, rfl⟩
    · rintro σ hh ⟨rfl, x6, x7, x8, rfl⟩
      unfold rd__law_worths_told_5
      walk_at "e0"
      rw [bD_0]
      walk_at "e0"
      rw [e25]
      walk_at "e0"
      rw [← v_ixDic, wk_ix (inB _ b (by simp) (.inl rfl)), bD_1]
      walk_at "e0"
      rw [e25]
      walk_at "e0"
      rw [← v_ixDic, wk_ix (inB _ b (by simp) (.inr rfl)), bD_2]
      walk_at "e0"
      rw [if_pos (by rw [decide_eq_true_eq]; omega)]
      exact lh_le W5 (q w nw)
end DL
namespace DL
open PySem PySem.Spec PyProof.Rows L2 BF
local macro_rules | `(tactic| walk_at "ev") => `(tactic| try simp only [e_seq, e_next, e_brk, e_cnt, e_drop, e_ret, e_retN, e_ifS, e_asg, e_gN, e_gSb, e_gTp, e_gCn, e_gNl, e_var, e_varK, e_nth0, e_nthS, e_put0, e_putS, e_c, e_op, e_un, e_call, e_nil, e_cons, e_tup, e_lst, e_test, e_asB, e_tru, e_andT, e_orT, e_notT, e_andV, e_orV, e_notV, e_if, e_aug, e_augS, e_sl, e_part, e_partK, e_noPart, e_bm0, e_bm, e_join, e_yes, e_wipe0, e_wipeS, e_lc, e_for, v_add, v_addS, v_addT, v_iadd, v_sub, v_mul, v_fdiv, v_mod, v_pow, v_shl, v_shr, v_neg, v_lt, v_le, v_gt, v_ge, v_eqI, v_neI, v_eqS, v_neS, v_inS, v_ninS, v_inT, v_ninT, v_inR, v_ninR, v_inSeq, v_seqO, v_seqR, v_seqT, v_seqL, v_ixR, v_ixT, v_ixL, v_ixS, v_atK, v_atSK, v_get, v_getL, v_getK, v_set, v_setL, v_setK, v_on1, v_on2, v_lenR, v_lenT, v_lenL, v_lenS, v_seqK, v_tuple, v_list, v_abs, v_intI, v_intB, v_okL, v_isLst, v_app, v_lstK, v_slS, v_slT, v_join, v_is, v_isnot, v_max, v_min, v_iSeq, v_srcT, v_srcL, v_srcS, v_srcR, v_srcO, v_iRg1, v_rg1, v_truN, v_truB, v_truI, v_truS, v_truR, v_truT, v_truRol, v_truL, v_inRol, v_ninRol, v_inO, v_inOd, v_inDic, v_ixO, v_ixOd, v_ixSeq, v_ixDic, v_dgetK, v_ixStr, v_getO, v_getOd, v_setO, v_setOd, v_setDic, v_lenO, v_lenOd, e_dic0, e_disp, e_pairs0, e_pairsS, e_chain, v_bits, v_iRg3, v_rg3, v_iRg2, v_rg2, v_iEn, v_enT, v_enR, v_enO, v_iZp, v_zpT, v_zpR, v_zpO, v_repr, v_strI, v_strS, v_addR, v_and, v_slR, v_slL, v_ltS, v_srtT, v_srtR, v_srtO, v_srtD, v_revR, v_revT, v_isB, v_iZs, v_zsT, v_eqIS, v_neIS, v_eqB, v_neB])
local macro_rules | `(tactic| walk_at "e0") => `(tactic| try simp only [e_seq, e_brk, e_cnt, e_drop, e_ret, e_retN, e_ifS, e_asg, e_gN, e_gSb, e_gTp, e_gCn, e_gNl, e_var, e_varK, e_nth0, e_nthS, e_put0, e_putS, e_c, e_op, e_un, e_call, e_nil, e_cons, e_tup, e_lst, e_test, e_asB, e_tru, e_andT, e_orT, e_notT, e_andV, e_orV, e_notV, e_if, e_aug, e_augS, e_sl, e_part, e_partK, e_noPart, e_bm0, e_bm, e_join, e_yes, e_wipe0, e_wipeS, e_lc, e_for, v_add, v_addS, v_addT, v_iadd, v_sub, v_mul, v_fdiv, v_mod, v_pow, v_shl, v_shr, v_neg, v_lt, v_le, v_gt, v_ge, v_eqI, v_neI, v_eqS, v_neS, v_inS, v_ninS, v_inT, v_ninT, v_inR, v_ninR, v_inSeq, v_seqO, v_seqR, v_seqT, v_seqL, v_ixR, v_ixT, v_ixL, v_ixS, v_atK, v_atSK, v_get, v_getL, v_getK, v_set, v_setL, v_setK, v_on1, v_on2, v_lenR, v_lenT, v_lenL, v_lenS, v_seqK, v_tuple, v_list, v_abs, v_intI, v_intB, v_okL, v_isLst, v_app, v_lstK, v_slS, v_slT, v_join, v_is, v_isnot, v_max, v_min, v_iSeq, v_srcT, v_srcL, v_srcS, v_srcR, v_srcO, v_iRg1, v_rg1, v_truN, v_truB, v_truI, v_truS, v_truR, v_truT, v_truRol, v_truL, v_inRol, v_ninRol, v_inO, v_inOd, v_inDic, v_ixO, v_ixOd, v_ixSeq, v_ixDic, v_dgetK, v_ixStr, v_getO, v_getOd, v_setO, v_setOd, v_setDic, v_lenO, v_lenOd, e_dic0, e_disp, e_pairs0, e_pairsS, e_chain, v_bits, v_iRg3, v_rg3, v_iRg2, v_rg2, v_iEn, v_enT, v_enR, v_enO, v_iZp, v_zpT, v_zpR, v_zpO, v_repr, v_strI, v_strS, v_addR, v_and, v_slR, v_slL, v_ltS, v_srtT, v_srtR, v_srtO, v_srtD, v_revR, v_revT, v_isB, v_iZs, v_zsT, v_eqIS, v_neIS, v_eqB, v_neB])
theorem add_bd {B : List B1} {b : B1} {h : MH} {Q : KD} (hB : B.length ≤ 1000) (k : Q (bsD (B ++ [b])) h) : addD (bsD B) (.tup [bD b]) h Q := by
  refine ⟨by rw [List.length_map]; exact Nat.le_of_lt (sl_lt (by simp; omega)), ?_⟩
  have e : B.map bD ++ [bD b] = (B ++ [b]).map bD := by rw [List.map_append]; rfl
  rw [e]; exact k
theorem add_bs {B C : List B1} {h : MH} {Q : KD} (hB : B.length + C.length ≤ 1000) (k : Q (bsD (B ++ C)) h) : addD (bsD B) (bsD C) h Q := by
  refine ⟨by rw [List.length_map, List.length_map]; exact Nat.le_of_lt (sl_lt (by omega)), ?_⟩
  have e : B.map bD ++ C.map bD = (B ++ C).map bD := by rw [List.map_append]
  rw [e]; exact k
structure LeastD (B : List B1) (h : MH) (ld : D) : Prop where
  or : (ld = .none ∧ ¬ ∃ s, Sol B s) ∨ ∃ p kvs s f, ld = .ref p ∧ h p = some (.dic kvs) ∧ LeastS B s ∧ DSt kvs (mp D.int f) ∧ (∀ x ∈ Zs :: termsF B, f x = some (s x)) ∧ kvs.length = (termsF B).length + 1
theorem LeastD.le {B : List B1} {h h' : MH} {ld : D} (L : LeastD B h ld) (w : le h h') : LeastD B h' ld := by
  rcases L.or with z | ⟨p, kvs, s, f, e, ep, r⟩
  · exact ⟨.inl z⟩
  · exact ⟨.inr ⟨p, kvs, s, f, e, w _ _ ep, r⟩⟩
def sp__law_follows : P1 := fun ds h Q => ∃ (B : List B1) (b : B1) (ld : D), ds = [bsD B, bD b, ld] ∧ B.length ≤ 50 ∧ BGS (B ++ [b]) ∧ (∀ s, Sol B s → s b.1 ≤ s b.2.1 + b.2.2) ∧ LeastD B h ld ∧ Q (.bool true) h
theorem len__law_follows : ∀ ds h Q, sp__law_follows ds h Q → ds.length = 3 := fun ds h Q ⟨_, _, _, e, _⟩ => by rw [e]; rfl
theorem sat__law_follows : ∀ ds h Q, sp__law_follows ds h Q → rd__law_follows sp_follows sp__law_is_ring sp__law_terms sp_settle (endN Q) (startD 8 ds) h := by
  rintro ds h Q ⟨B, b, ld, rfl, hB, G, hf, hL, q⟩
  show rd__law_follows sp_follows sp__law_is_ring sp__law_terms sp_settle (endN Q) [some (bsD B), some (bD b), some ld, none, none, none, none, none] h
  obtain ⟨R, eR, hR, RD⟩ := fol_follows (opp_no.mpr hf)
  have hT := terms_len (B ++ [opp b])
  have hT2 := terms_len (B ++ [b])
  rw [List.length_append, List.length_singleton] at hT hT2
  unfold rd__law_follows
  walk_at "e0"
  refine ⟨B, b, rfl, by omega, ?_⟩
  rw [eR]
  walk_at "e0"
  unfold rd__law_follows_1
  walk_at "e0"
  rw [bD_1, bD_0, bD_2]
  walk_at "e0"
  refine ⟨by show 3 ≤ sizeLine; decide, by show 1 ≤ sizeLine; decide, ?_⟩
  show addD (bsD B) (.tup [bD (opp b)]) _ _
  refine add_bd (by omega) ?_
  unfold rd__law_follows_2
  walk_at "e0"
  rw [isi_eval (t := "tuple") (n := "tuple") (b := true) rfl (by decide)]
  walk_at "e0"
  rw [if_neg (by decide), if_neg (by simp), atI_z]
  walk_at "e0"
  rw [if_neg (by simp), atI_1]
  walk_at "e0"
  refine ⟨B ++ [opp b], R, rfl, by rw [List.length_append]; simp; omega, by omega, RD, ?_⟩
  walk_at "e0"
  rw [if_neg (by decide), e_next]
  unfold rd__law_follows_3
  walk_at "e0"
  rcases hL.or with ⟨rfl, n⟩ | ⟨p, kvs, s, f, rfl, ep, L, d, hff, hl⟩
  · rw [if_pos (by rfl)]
    exact lh_of q
  · rw [if_neg (show ¬ isNone (.ref p) = true from Bool.false_ne_true), e_next]
    unfold rd__law_follows_4
    walk_at "e0"
    refine ⟨by show 1 ≤ sizeLine; decide, add_bd (by omega) ?_⟩
    refine ⟨B ++ [b], rfl, by rw [List.length_append]; simp; omega, fun tl ntl => ?_⟩
    have ep1 : up h tl (.lst ((termsF (B ++ [b])).map D.str)) p = some (.dic kvs) := by rw [up_ne (nef ep ntl)]; exact ep
    have et : up h tl (.lst ((termsF (B ++ [b])).map D.str)) tl = some (.lst ((termsF (B ++ [b])).map D.str)) := up_same
    have W1 := le.up (o := .lst ((termsF (B ++ [b])).map D.str)) ntl
    generalize up h tl (.lst ((termsF (B ++ [b])).map D.str)) = h1 at ep1 et W1
    walk_at "ev"
    unfold rd__law_follows_5
    walk_at "ev"
    rw [et]
    walk_at "ev"
    refine lcT_t (termsF (B ++ [b])) D.str (fun t => .tup [.str t, .int (s t)]) rfl (Nat.le_of_lt (sl_lt (by omega))) et (fun t ht Q' hQ => ?_) ?_
    · walk_at "e0"
      rw [ep1]
      walk_at "e0"
      rw [d.get t]
      have tz : t ≠ Zs := (terms_mem.mp ht).1
      cases e : f t with
      | some v =>
        have m : t ∈ Zs :: termsF B := Classical.byContradiction fun z => by rw [least_none d hff hl z] at e; cases e
        have ev : v = s t := by rw [hff t m] at e; exact (Option.some.inj e).symm
        have em : mp D.int f t = some (.int v) := by unfold mp; rw [e]; rfl
        rw [em]
        refine ⟨d.fit t, ?_⟩
        rw [if_pos (by rfl), ev]
        exact ⟨d.fit t, by show 2 ≤ sizeLine; decide, hQ _ le.refl⟩
      | none =>
        have em : mp D.int f t = none := by unfold mp; rw [e]; rfl
        have nm : t ∉ Zs :: termsF B := fun m => by rw [hff t m] at e; cases e
        have z0 : s t = 0 := least_zero L (fun z => nm (List.mem_cons_of_mem _ z)) tz
        rw [em]
        refine ⟨d.fit t, ?_⟩
        rw [if_neg (by simp)]
        rw [z0] at hQ
        exact ⟨by show 2 ≤ sizeLine; decide, hQ _ le.refl⟩
    intro dl ndl
    have ed : up h1 dl (.lst ((termsF (B ++ [b])).map fun t => .tup [.str t, .int (s t)])) dl = some (.lst ((termsF (B ++ [b])).map fun t => .tup [.str t, .int (s t)])) := up_same
    have W2 := W1.trans (le.up (o := .lst ((termsF (B ++ [b])).map fun t => .tup [.str t, .int (s t)])) ndl)
    generalize up h1 dl (.lst ((termsF (B ++ [b])).map fun t => .tup [.str t, .int (s t)])) = h2 at ed W2
    walk_at "ev"
    unfold rd__law_follows_6
    walk_at "e0"
    refine ⟨by show 1 ≤ sizeLine; decide, add_bd (by omega) ?_⟩
    have L2 : LeastS (B ++ [b]) s := by
      refine ⟨sol_app.mpr ⟨L.1, fun c hc => ?_⟩, fun s' S' => L.2 s' (sol_app.mp S').1⟩
      rw [List.mem_singleton.mp hc]; exact hf s L.1
    have ok := leastD_ok (B := B ++ [b]) (s := s) (by rw [List.length_append]; simp; omega) G L2.1
    refine ⟨B ++ [b], rfl, by rw [List.length_append]; simp; omega, ?_⟩
    rw [resD_least L2]
    walk_at "e0"
    refine ⟨ok.1, ok.2.1, ok.2.2, ?_⟩
    rw [ed]
    walk_at "e0"
    refine ⟨by show 2 ≤ sizeLine; decide, ok.1, ok.2.1, ok.2.2, ?_⟩
    rw [show decide ((pd (leastD (B ++ [b]) s)).shown = (pd (D.tup [D.str (Str.ofString "least"), D.tup ((termsF (B ++ [b])).map fun t => D.tup [D.str t, D.int (s t)])])).shown) = true from decide_eq_true rfl]
    exact lh_le W2 q
theorem neX_of {x y : D} {h : MH} {Q : KD} (q : neD x y h Q) : neDX x y h Q := .inl q
theorem neX_I {i j : Int} {h : MH} {Q : KD} (q : Q (.bool (!decide (i = j))) h) : neDX (.int i) (.int j) h Q := .inl (by rw [v_neI]; exact q)
theorem neX_S {i j : Str} {h : MH} {Q : KD} (q : Q (.bool (!decide (i = j))) h) : neDX (.str i) (.str j) h Q := .inl (by rw [v_neS]; exact q)
def sp__law_breaks_by : P1 := fun ds h Q => ∃ (B : List B1) (b : B1), ds = [bsD B, bD b] ∧ B.length ≤ 20 ∧ (termsF (B ++ [b])).length ≤ 20 ∧ BGS (B ++ [b]) ∧ (∃ s, Sol B s ∧ s b.2.1 + b.2.2 < s b.1) ∧ Q (.bool true) h
theorem len__law_breaks_by : ∀ ds h Q, sp__law_breaks_by ds h Q → ds.length = 2 := fun ds h Q ⟨_, _, e, _⟩ => by rw [e]; rfl
theorem bgs_fix {T : List Str} {s : Str → Int} (h : ∀ t ∈ T, GS t) : BGS (fixF T s) := fun b hb => by
  obtain ⟨t, ht, rfl | rfl⟩ := fix_mem.mp hb
  · exact ⟨h t ht, GS_Z⟩
  · exact ⟨GS_Z, h t ht⟩
theorem bgs_app {B C : List B1} (h1 : BGS B) (h2 : BGS C) : BGS (B ++ C) := fun b hb => by
  rcases List.mem_append.mp hb with hb | hb
  · exact h1 b hb
  · exact h2 b hb
theorem sol_opp {B : List B1} {b : B1} {s : Str → Int} : Sol (B ++ [opp b]) s ↔ Sol B s ∧ s b.2.1 + b.2.2 < s b.1 := by
  rw [sol_app]
  constructor
  · rintro ⟨S, h⟩
    have := h (opp b) (by simp)
    have : s b.2.1 ≤ s b.1 + (-b.2.2 - 1) := this
    exact ⟨S, by omega⟩
  · rintro ⟨S, h⟩
    refine ⟨S, fun c hc => ?_⟩
    rw [List.mem_singleton.mp hc]
    show s b.2.1 ≤ s b.1 + (-b.2.2 - 1)
    omega
theorem sat__law_breaks_by : ∀ ds h Q, sp__law_breaks_by ds h Q → rd__law_breaks_by sp_follows sp__law_worths_told sp__law_terms sp_settle sp__law_is_ring (endN Q) (startD 10 ds) h := by
  rintro ds h Q ⟨B, b, rfl, hB, hT, G, ⟨s0, S0, l0⟩, q⟩
  show rd__law_breaks_by sp_follows sp__law_worths_told sp__law_terms sp_settle sp__law_is_ring (endN Q) [some (bsD B), some (bD b), none, none, none, none, none, none, none, none] h
  obtain ⟨s, L, eF⟩ := fol_breaks (B := B) (b := b) ⟨s0, sol_opp.mpr ⟨S0, l0⟩⟩
  obtain ⟨SB, sb⟩ := sol_opp.mp L.1
  have gT : ∀ t ∈ termsF (B ++ [b]), GS t := terms_GS G
  unfold rd__law_breaks_by
  walk_at "e0"
  refine ⟨B, b, rfl, by omega, ?_⟩
  rw [eF]
  walk_at "e0"
  unfold rd__law_breaks_by_1
  walk_at "e0"
  rw [isi_eval (t := "tuple") (n := "tuple") (b := true) rfl (by decide)]
  walk_at "e0"
  rw [if_neg (by decide)]
  refine neX_I ?_
  walk_at "e0"
  rw [if_neg (by simp), atI_z]
  walk_at "e0"
  refine neX_S ?_
  walk_at "e0"
  rw [if_neg (by simp), e_next]
  unfold rd__law_breaks_by_2
  walk_at "e0"
  rw [atI_1]
  walk_at "e0"
  refine ⟨B, b, s, rfl, by omega, SB, sb, fun w nw => ?_⟩
  have ew : up h w (.dic (wk (Zs :: termsF (B ++ [b])) s)) w = some (.dic (wk (Zs :: termsF (B ++ [b])) s)) := up_same
  have W1 := le.up (o := .dic (wk (Zs :: termsF (B ++ [b])) s)) nw
  generalize up h w (.dic (wk (Zs :: termsF (B ++ [b])) s)) = h1 at ew W1
  unfold rd__law_breaks_by_3
  walk_at "e0"
  rw [if_neg (show ¬ isNone (.ref w) = true from Bool.false_ne_true), e_next]
  unfold rd__law_breaks_by_4
  walk_at "e0"
  refine ⟨by show 1 ≤ sizeLine; decide, add_bd (by omega) ?_⟩
  refine ⟨B ++ [b], rfl, by rw [List.length_append]; simp; omega, fun tl ntl => ?_⟩
  have et : up h1 tl (.lst ((termsF (B ++ [b])).map D.str)) tl = some (.lst ((termsF (B ++ [b])).map D.str)) := up_same
  have ew2 : up h1 tl (.lst ((termsF (B ++ [b])).map D.str)) w = some (.dic (wk (Zs :: termsF (B ++ [b])) s)) := by rw [up_ne (nef ew ntl)]; exact ew
  have W2 := W1.trans (le.up (o := .lst ((termsF (B ++ [b])).map D.str)) ntl)
  generalize up h1 tl (.lst ((termsF (B ++ [b])).map D.str)) = h2 at et ew2 W2
  walk_at "ev"
  rw [et]
  walk_at "ev"
  have hT3 := hT
  have eT1 := terms_fix1 B b s
  have eT2 := terms_fix2 B b s
  have nd := terms_nodup (B ++ [b])
  have zn : Zs ∉ termsF (B ++ [b]) := fun z => (terms_mem.mp z).1 rfl
  generalize hTe : termsF (B ++ [b]) = T at et ew2 hT3 eT1 eT2 gT nd zn W2
  refine lcT_t T D.str (fun t => .tup [.str t, .int (s t)]) rfl (Nat.le_of_lt (sl_lt (by omega))) et (fun t ht Q' hQ => ?_) ?_
  · walk_at "e0"
    rw [ew2]
    walk_at "e0"
    rw [← v_ixDic, wk_ix (List.mem_cons_of_mem _ ht)]
    exact ⟨by show 2 ≤ sizeLine; decide, hQ _ le.refl⟩
  intro pl npl
  have epl : up h2 pl (.lst (T.map fun t => .tup [.str t, .int (s t)])) pl = some (.lst (T.map fun t => .tup [.str t, .int (s t)])) := up_same
  have ew3 : up h2 pl (.lst (T.map fun t => .tup [.str t, .int (s t)])) w = some (.dic (wk (Zs :: T) s)) := by rw [up_ne (nef ew2 npl)]; exact ew2
  have W3 := W2.trans (le.up (o := .lst (T.map fun t => .tup [.str t, .int (s t)])) npl)
  generalize up h2 pl (.lst (T.map fun t => .tup [.str t, .int (s t)])) = h3 at epl ew3 W3
  walk_at "ev"
  unfold rd__law_breaks_by_5
  walk_at "ev"
  rw [epl]
  walk_at "ev"
  refine lcT_t T (fun t => .tup [.str t, .int (s t)]) (fun t => bD (t, Zs, s t)) rfl (Nat.le_of_lt (sl_lt (by omega))) epl (fun t ht Q' hQ => ?_) ?_
  · walk_at "ev"
    rw [atI_z, v_atK, atI_1, v_atK]
    exact ⟨by show 3 ≤ sizeLine; decide, hQ _ le.refl⟩
  intro f1 nf1
  have ef1 : up h3 f1 (.lst (T.map fun t => bD (t, Zs, s t))) f1 = some (.lst (T.map fun t => bD (t, Zs, s t))) := up_same
  have epl1 : up h3 f1 (.lst (T.map fun t => bD (t, Zs, s t))) pl = some (.lst (T.map fun t => .tup [.str t, .int (s t)])) := by rw [up_ne (nef epl nf1)]; exact epl
  have ew4 : up h3 f1 (.lst (T.map fun t => bD (t, Zs, s t))) w = some (.dic (wk (Zs :: T) s)) := by rw [up_ne (nef ew3 nf1)]; exact ew3
  have W4 := W3.trans (le.up (o := .lst (T.map fun t => bD (t, Zs, s t))) nf1)
  generalize up h3 f1 (.lst (T.map fun t => bD (t, Zs, s t))) = h4 at ef1 epl1 ew4 W4
  rw [epl1]
  walk_at "ev"
  refine lcT_t T (fun t => .tup [.str t, .int (s t)]) (fun t => bD (Zs, t, -s t)) rfl (Nat.le_of_lt (sl_lt (by omega))) epl1 (fun t ht Q' hQ => ?_) ?_
  · walk_at "ev"
    rw [atI_z, v_atK, atI_1, v_atK]
    walk_at "ev"
    exact ⟨by show 3 ≤ sizeLine; decide, hQ _ le.refl⟩
  intro f2 nf2
  have ef2 : up h4 f2 (.lst (T.map fun t => bD (Zs, t, -s t))) f2 = some (.lst (T.map fun t => bD (Zs, t, -s t))) := up_same
  have ef12 : up h4 f2 (.lst (T.map fun t => bD (Zs, t, -s t))) f1 = some (.lst (T.map fun t => bD (t, Zs, s t))) := by rw [up_ne (nef ef1 nf2)]; exact ef1
  have epl2 : up h4 f2 (.lst (T.map fun t => bD (Zs, t, -s t))) pl = some (.lst (T.map fun t => .tup [.str t, .int (s t)])) := by rw [up_ne (nef epl1 nf2)]; exact epl1
  have ew5 : up h4 f2 (.lst (T.map fun t => bD (Zs, t, -s t))) w = some (.dic (wk (Zs :: T) s)) := by rw [up_ne (nef ew4 nf2)]; exact ew4
  have W5 := W4.trans (le.up (o := .lst (T.map fun t => bD (Zs, t, -s t))) nf2)
  generalize up h4 f2 (.lst (T.map fun t => bD (Zs, t, -s t))) = h5 at ef2 ef12 epl2 ew5 W5
  refine ⟨_, _, ef12, ef2, by rw [List.length_map, List.length_map]; exact Nat.le_of_lt (sl_lt (by omega)), fun f3 nf3 => ?_⟩
  have em : (T.map fun t => bD (t, Zs, s t)) ++ (T.map fun t => bD (Zs, t, -s t)) = (fixF T s).map bD := by
    unfold fixF
    rw [List.map_append, List.map_map, List.map_map]; rfl
  rw [em]
  have ef3 : up h5 f3 (.lst ((fixF T s).map bD)) f3 = some (.lst ((fixF T s).map bD)) := up_same
  have epl3 : up h5 f3 (.lst ((fixF T s).map bD)) pl = some (.lst (T.map fun t => .tup [.str t, .int (s t)])) := by rw [up_ne (nef epl2 nf3)]; exact epl2
  have ew6 : up h5 f3 (.lst ((fixF T s).map bD)) w = some (.dic (wk (Zs :: T) s)) := by rw [up_ne (nef ew5 nf3)]; exact ew5
  have W6 := W5.trans (le.up (o := .lst ((fixF T s).map bD)) nf3)
  generalize up h5 f3 (.lst ((fixF T s).map bD)) = h6 at ef3 epl3 ew6 W6
  show seqK _ (seqO (h6 f3))
  rw [ef3, v_seqO, v_seqK]
  have eF' : D.tup ((fixF T s).map bD) = bsD (fixF T s) := rfl
  rw [eF']
  have lF := fix_len T s
  have gF := bgs_fix (s := s) gT
  have gB : BGS B := fun x hx => G x (List.mem_append_left _ hx)
  have nz : ∀ x, x ∉ T → x ≠ Zs → s x = 0 := fun x hx z => least_zero L (by rw [terms_opp, hTe]; exact hx) z
  have SF : Sol (B ++ fixF T s) s := sol_fix.mpr ⟨SB, fun _ _ => rfl⟩
  have LF : LeastS (B ++ fixF T s) s := by
    refine ⟨SF, fun s' S' x => ?_⟩
    obtain ⟨S2, h2⟩ := sol_fix.mp S'
    by_cases z : x = Zs
    · rw [z, SB.z, S2.z]; exact Int.le_refl 0
    · by_cases m : x ∈ T
      · rw [h2 x m]; exact Int.le_refl _
      · rw [nz x m z]; exact S2.lo x
  clear em eF'
  generalize hF : fixF T s = F at ef3 lF gF SF LF eT1 eT2 W6
  unfold rd__law_breaks_by_6
  walk_at "e0"
  refine add_bs (by omega) ?_
  refine ⟨B ++ F, rfl, by rw [List.length_append]; omega, ?_⟩
  have ok := leastD_ok (B := B ++ F) (s := s) (by rw [List.length_append]; omega) (bgs_app gB gF) SF
  rw [resD_least LF]
  refine ⟨ok.1, ok.2.1, ok.2.2, ?_⟩
  rw [epl3]
  walk_at "e0"
  have eL : leastD (B ++ F) s = D.tup [D.str (Str.ofString "least"), D.tup (T.map fun t => D.tup [D.str t, D.int (s t)])] := by
    unfold leastD; rw [eT1]
  rw [← eL]
  refine ⟨by show 2 ≤ sizeLine; decide, ok.1, ok.2.1, ok.2.2, ?_⟩
  refine neX_S ?_
  walk_at "e0"
  rw [if_neg (by simp), e_next]
  unfold rd__law_breaks_by_7
  walk_at "e0"
  refine add_bs (by omega) ?_
  refine ⟨F ++ B, b, rfl, by rw [List.length_append]; omega, ?_⟩
  have SFB : Sol (F ++ B) s := sol_comm.mp SF
  obtain ⟨s2, L2, eF2⟩ := fol_breaks (B := F ++ B) (b := b) ⟨s, sol_opp.mpr ⟨SFB, sb⟩⟩
  have same : ∀ t ∈ T, s2 t = s t := by
    have := (sol_opp.mp L2.1).1
    have := sol_comm.mp this
    rw [← hF] at this
    exact (sol_fix.mp this).2
  have ep : pairsD (termsF ((F ++ B) ++ [b])) s2 = pairsD (termsF ((F ++ B) ++ [b])) s := by
    rw [eT2]
    unfold pairsD
    congr 1
    refine List.map_congr_left fun t ht => ?_
    rw [same t ht]
  rw [eF2, ep]
  unfold rd__law_breaks_by_8
  walk_at "e0"
  rw [isi_eval (t := "tuple") (n := "tuple") (b := true) rfl (by decide)]
  walk_at "e0"
  rw [if_neg (by decide)]
  refine neX_I ?_
  walk_at "e0"
  rw [if_neg (by simp), atI_z]
  walk_at "e0"
  refine neX_S ?_
  walk_at "e0"
  rw [if_neg (by simp), e_next]
  unfold rd__law_breaks_by_9
  walk_at "e0"
  refine add_bs (by omega) ?_
  rw [atI_1]
  walk_at "e0"
  refine ⟨F ++ B, b, s, rfl, by rw [List.length_append]; omega, SFB, sb, fun w2 nw2 => ?_⟩
  rw [eT2]
  have ew7 : up h6 w2 (.dic (wk (Zs :: T) s)) w = some (.dic (wk (Zs :: T) s)) := by rw [up_ne (nef ew6 nw2)]; exact ew6
  have ew72 : up h6 w2 (.dic (wk (Zs :: T) s)) w2 = some (.dic (wk (Zs :: T) s)) := up_same
  have W7 := W6.trans (le.up (o := .dic (wk (Zs :: T) s)) nw2)
  generalize up h6 w2 (.dic (wk (Zs :: T) s)) = h7 at ew7 ew72 W7
  refine .inr (wk_same (by simp) (List.nodup_cons.mpr ⟨zn, nd⟩) ew72 ew7 ?_)
  walk_at "e0"
  rw [if_neg (by decide), e_next]
  unfold rd__law_breaks_by_10
  walk_at "e0"
  refine add_bs (by omega) ?_
  rw [bD_1, bD_0, bD_2]
  walk_at "e0"
  refine ⟨by show 3 ≤ sizeLine; decide, ?_⟩
  refine ⟨B ++ F, opp b, rfl, by rw [List.length_append]; omega, ?_⟩
  have no : ¬ ∃ s', Sol ((B ++ F) ++ [opp (opp b)]) s' := by
    rintro ⟨s', S'⟩
    obtain ⟨S1, h1⟩ := sol_opp.mp S'
    rw [← hF] at S1
    obtain ⟨S2, h2⟩ := sol_fix.mp S1
    have inT : ∀ x, (x = b.1 ∨ x = b.2.1) → s' x = s x := fun x e => by
      by_cases z : x = Zs
      · rw [z, S2.z, SB.z]
      · exact h2 x (by rw [← hTe]; exact terms_mem.mpr ⟨z, b, by simp, e⟩)
    have e1 := inT b.1 (.inl rfl)
    have e2 := inT b.2.1 (.inr rfl)
    have h1 : s' b.1 + (-b.2.2 - 1) < s' b.2.1 := h1
    omega
  obtain ⟨R, eR, hR, RD⟩ := fol_follows no
  have hT4 := terms_len ((B ++ F) ++ [opp (opp b)])
  rw [List.length_append, List.length_append, List.length_singleton] at hT4
  rw [eR]
  rw [opp_opp] at RD
  unfold rd__law_breaks_by_11
  walk_at "e0"
  rw [isi_eval (t := "tuple") (n := "tuple") (b := true) rfl (by decide)]
  walk_at "e0"
  rw [if_neg (by decide)]
  refine neX_I ?_
  walk_at "e0"
  rw [if_neg (by simp), atI_z]
  walk_at "e0"
  refine neX_S ?_
  walk_at "e0"
  rw [if_neg (by simp), e_next]
  unfold rd__law_breaks_by_12
  walk_at "e0"
  refine add_bs (by omega) ⟨by show 1 ≤ sizeLine; decide, add_bd (by rw [List.length_append]; omega) ?_⟩
  rw [atI_1]
  walk_at "e0"
  refine ⟨(B ++ F) ++ [b], R, rfl, by rw [List.length_append, List.length_append]; simp; omega, by omega, RD, ?_⟩
  exact lh_le W7 q
end DL
namespace DL
open PySem PySem.Spec PyProof.Rows L2 BF
local macro_rules | `(tactic| walk_at "ev") => `(tactic| try simp only [e_seq, e_next, e_brk, e_cnt, e_drop, e_ret, e_retN, e_ifS, e_asg, e_gN, e_gSb, e_gTp, e_gCn, e_gNl, e_var, e_varK, e_nth0, e_nthS, e_put0, e_putS, e_c, e_op, e_un, e_call, e_nil, e_cons, e_tup, e_lst, e_test, e_asB, e_tru, e_andT, e_orT, e_notT, e_andV, e_orV, e_notV, e_if, e_aug, e_augS, e_sl, e_part, e_partK, e_noPart, e_bm0, e_bm, e_join, e_yes, e_wipe0, e_wipeS, e_lc, e_for, v_add, v_addS, v_addT, v_iadd, v_sub, v_mul, v_fdiv, v_mod, v_pow, v_shl, v_shr, v_neg, v_lt, v_le, v_gt, v_ge, v_eqI, v_neI, v_eqS, v_neS, v_inS, v_ninS, v_inT, v_ninT, v_inR, v_ninR, v_inSeq, v_seqO, v_seqR, v_seqT, v_seqL, v_ixR, v_ixT, v_ixL, v_ixS, v_atK, v_atSK, v_get, v_getL, v_getK, v_set, v_setL, v_setK, v_on1, v_on2, v_lenR, v_lenT, v_lenL, v_lenS, v_seqK, v_tuple, v_list, v_abs, v_intI, v_intB, v_okL, v_isLst, v_app, v_lstK, v_slS, v_slT, v_join, v_is, v_isnot, v_max, v_min, v_iSeq, v_srcT, v_srcL, v_srcS, v_srcR, v_srcO, v_iRg1, v_rg1, v_truN, v_truB, v_truI, v_truS, v_truR, v_truT, v_truRol, v_truL, v_inRol, v_ninRol, v_inO, v_inOd, v_inDic, v_ixO, v_ixOd, v_ixSeq, v_ixDic, v_dgetK, v_ixStr, v_getO, v_getOd, v_setO, v_setOd, v_setDic, v_lenO, v_lenOd, e_dic0, e_disp, e_pairs0, e_pairsS, e_chain, v_bits, v_iRg3, v_rg3, v_iRg2, v_rg2, v_iEn, v_enT, v_enR, v_enO, v_iZp, v_zpT, v_zpR, v_zpO, v_repr, v_strI, v_strS, v_addR, v_and, v_slR, v_slL, v_ltS, v_srtT, v_srtR, v_srtO, v_srtD, v_revR, v_revT, v_isB, v_iZs, v_zsT, v_eqIS, v_neIS, v_eqB, v_neB])
local macro_rules | `(tactic| walk_at "e0") => `(tactic| try simp only [e_seq, e_brk, e_cnt, e_drop, e_ret, e_retN, e_ifS, e_asg, e_gN, e_gSb, e_gTp, e_gCn, e_gNl, e_var, e_varK, e_nth0, e_nthS, e_put0, e_putS, e_c, e_op, e_un, e_call, e_nil, e_cons, e_tup, e_lst, e_test, e_asB, e_tru, e_andT, e_orT, e_notT, e_andV, e_orV, e_notV, e_if, e_aug, e_augS, e_sl, e_part, e_partK, e_noPart, e_bm0, e_bm, e_join, e_yes, e_wipe0, e_wipeS, e_lc, e_for, v_add, v_addS, v_addT, v_iadd, v_sub, v_mul, v_fdiv, v_mod, v_pow, v_shl, v_shr, v_neg, v_lt, v_le, v_gt, v_ge, v_eqI, v_neI, v_eqS, v_neS, v_inS, v_ninS, v_inT, v_ninT, v_inR, v_ninR, v_inSeq, v_seqO, v_seqR, v_seqT, v_seqL, v_ixR, v_ixT, v_ixL, v_ixS, v_atK, v_atSK, v_get, v_getL, v_getK, v_set, v_setL, v_setK, v_on1, v_on2, v_lenR, v_lenT, v_lenL, v_lenS, v_seqK, v_tuple, v_list, v_abs, v_intI, v_intB, v_okL, v_isLst, v_app, v_lstK, v_slS, v_slT, v_join, v_is, v_isnot, v_max, v_min, v_iSeq, v_srcT, v_srcL, v_srcS, v_srcR, v_srcO, v_iRg1, v_rg1, v_truN, v_truB, v_truI, v_truS, v_truR, v_truT, v_truRol, v_truL, v_inRol, v_ninRol, v_inO, v_inOd, v_inDic, v_ixO, v_ixOd, v_ixSeq, v_ixDic, v_dgetK, v_ixStr, v_getO, v_getOd, v_setO, v_setOd, v_setDic, v_lenO, v_lenOd, e_dic0, e_disp, e_pairs0, e_pairsS, e_chain, v_bits, v_iRg3, v_rg3, v_iRg2, v_rg2, v_iEn, v_enT, v_enR, v_enO, v_iZp, v_zpT, v_zpR, v_zpO, v_repr, v_strI, v_strS, v_addR, v_and, v_slR, v_slL, v_ltS, v_srtT, v_srtR, v_srtO, v_srtD, v_revR, v_revT, v_isB, v_iZs, v_zsT, v_eqIS, v_neIS, v_eqB, v_neB])
def sp__law_drawn : P1 := fun ds h Q => ∃ (a c : Addr) (cs : List Int) (ts : List Str) (tl : Addr) (mood : Int), ds = [.ref a, .ref tl, .int mood] ∧ Dr a c cs h ∧ tl ≠ a ∧ h tl = some (.lst (ts.map D.str)) ∧ ts.length ≤ 30 ∧
  ∀ B o, DrO c o → B.length ≤ 9 → (∀ b ∈ B, BIn (ts ++ [Zs]) b) → Q (bsD B) (up h a o)
theorem len__law_drawn : ∀ ds h Q, sp__law_drawn ds h Q → ds.length = 3 := fun ds h Q ⟨_, _, _, _, _, _, e, _⟩ => by rw [e]; rfl
theorem sat__law_drawn : ∀ ds h Q, sp__law_drawn ds h Q → rd__law_drawn sp__law_pick sp__law_draw (endN Q) (startD 10 ds) h := by
  rintro ds h Q ⟨a, c, cs, ts, tl, mood, rfl, d, ta, et, hts, q⟩
  have L0 := LV.start d
  have ets : ts.map D.str ++ [.str (Str.ofString "0")] = (ts ++ [Zs]).map D.str := by rw [List.map_append]; rfl
  show rd__law_drawn sp__law_pick sp__law_draw (endN Q) [some (.ref a), some (.ref tl), some (.int mood), none, none, none, none, none, none, none] h
  unfold rd__law_drawn
  walk_at "ev"
  refine ⟨rfl, by decide, ?_⟩
  intro w nw
  generalize ew : up _ w _ = h1
  have wa := L0.ne nw
  have L1 := L0.newE nw ew
  unfold rd__law_drawn_1
  walk_at "ev"
  rw [L1.old et ta]
  walk_at "ev"
  refine ⟨fun i σ hh => ∃ (kvs : Kvs) (x4 : Option D), LV h a c cs hh [(w, .dic kvs)] ∧ Wth kvs (fun y => y = Zs ∨ y ∈ ts.take i) ∧ kvs.length ≤ i + 1 ∧ σ = [some (.ref a), some (.ref tl), some (.int mood), some (.ref w), x4, none, none, none, none, none], Lw.of ⟨_, none, L1, Wth.zero.to (by rintro y (rfl | hy); rfl; simp at hy), by decide, rfl⟩, fun i σ hh ⟨_, _, L, _⟩ => L.old et ta, ?_, ?_⟩
  · rintro i x σ hh hx ⟨kvs, x4, L, W, hl, rfl⟩
    rw [List.getElem?_map] at hx
    obtain ⟨t, ht, rfl⟩ := Option.map_eq_some_iff.mp hx
    obtain ⟨hi, et'⟩ := List.getElem?_eq_some_iff.mp ht
    walk_at "ev"
    unfold rd__law_drawn_b1
    walk_at "ev"
    refine L.draw (by decide) (by decide) fun r1 h2 r10 r11 L => ?_
    refine L.draw (by decide) (by decide) fun r2 h3 r20 r21 L => ?_
    refine L.draw (by decide) (by decide) fun r3 h4 r30 r31 L => ?_
    refine ⟨by show 7 ≤ sizeLine; decide, L.pickN (by simp) (by simp) fun x hx h5 L => ?_⟩
    obtain ⟨v, rfl, v0, v1⟩ : ∃ v : Int, x = .int v ∧ 0 ≤ v ∧ v ≤ 9999 := by
      simp only [List.mem_cons, List.not_mem_nil, or_false] at hx
      rcases hx with rfl | rfl | rfl | rfl | rfl | rfl | rfl <;> exact ⟨_, rfl, by omega, by omega⟩
    walk_at "ev"
    rw [L.get 0 rfl]
    walk_at "ev"
    refine ⟨W.fit t, sl_lt (by omega), Lw.of ⟨_, _, L.set 0 rfl _, (W.put t ⟨v0, v1⟩).to ?_, Nat.le_trans (dset_len _ _ _) (by omega), rfl⟩⟩
    rintro y (rfl | hy)
    · exact .inl (.inl rfl)
    · rw [List.take_succ_eq_append_getElem hi, List.mem_append, et'] at hy
      rcases hy with hy | hy
      · exact .inl (.inr hy)
      · exact .inr (List.mem_singleton.mp hy)
  · rintro σ hh ⟨kvs, x4, L, W, hl, rfl⟩
    rw [List.length_map, List.take_length] at W
    unfold rd__law_drawn_2
    walk_at "ev"
    refine ⟨by decide, ?_⟩
    intro fl nfl
    generalize efl : up _ fl _ = h2
    have L2 := L.newE nfl efl
    unfold rd__law_drawn_3
    walk_at "ev"
    refine L2.draw (by decide) (by decide) fun r h3 r0 r1 L3 => ?_
    obtain ⟨m, rfl⟩ := Int.eq_ofNat_of_zero_le r0
    walk_at "ev"
    refine ⟨bnd62 (by omega), ?_⟩
    have sw : ∀ y, y ∈ ts ++ [Zs] → y = Zs ∨ y ∈ ts := fun y hy => by
      rcases List.mem_append.mp hy with hy | hy
      · exact .inr hy
      · exact .inl (List.mem_singleton.mp hy)
    refine ⟨fun i σ hh => ∃ (B : List B1) (x6 x7 x8 x9 : Option D), LV h a c cs hh [(fl, .lst (B.map bD)), (w, .dic kvs)] ∧ B.length = i ∧ (∀ b ∈ B, BIn (ts ++ [Zs]) b) ∧ σ = [some (.ref a), some (.ref tl), some (.int mood), some (.ref w), x4, some (.ref fl), x6, x7, x8, x9], Lw.of ⟨[], _, _, _, _, L3, rfl, by simp, rfl⟩, fun _ _ _ _ => trivial, ?_, ?_⟩
    · rintro i x σ hh hx ⟨B, x6, x7, x8, x9, L, hB, hin, rfl⟩
      obtain ⟨hi, rfl⟩ := rg_at hx
      walk_at "ev"
      unfold rd__law_drawn_b2
      walk_at "ev"
      refine ⟨by show 1 ≤ sizeLine; decide, ?_⟩
      intro p1 np1
      generalize ep1 : up _ p1 _ = h4
      have L4 := L.newE np1 ep1
      refine ⟨_, _, L4.old et ta, L4.get 0 rfl, by simp only [List.length_map, List.length_singleton]; exact Nat.le_of_lt (sl_lt (by omega)), ?_⟩
      intro p2 np2
      generalize ep2 : up _ p2 _ = h5
      have p2a := L4.ne np2
      have L5 := L4.newE np2 ep2
      rw [ets] at L5
      refine L5.pick (L5.get 0 rfl) p2a (by simp) (by simp; omega) fun x hx h6 L6 => ?_
      obtain ⟨l, hl2, rfl⟩ := List.mem_map.mp hx
      replace L6 := L6.tl.tl
      walk_at "ev"
      unfold rd__law_drawn_b2_1
      walk_at "ev"
      refine ⟨by show 1 ≤ sizeLine; decide, ?_⟩
      intro p3 np3
      generalize ep3 : up _ p3 _ = h7
      have L7 := L6.newE np3 ep3
      refine ⟨_, _, L7.old et ta, L7.get 0 rfl, by simp only [List.length_map, List.length_singleton]; exact Nat.le_of_lt (sl_lt (by omega)), ?_⟩
      intro p4 np4
      generalize ep4 : up _ p4 _ = h8
      have p4a := L7.ne np4
      have L8 := L7.newE np4 ep4
      rw [ets] at L8
      refine L8.pick (L8.get 0 rfl) p4a (by simp) (by simp; omega) fun x hx h9 L9 => ?_
      obtain ⟨r, hr2, rfl⟩ := List.mem_map.mp hx
      replace L9 := L9.tl.tl
      walk_at "ev"
      unfold rd__law_drawn_b2_2
      walk_at "ev"
      obtain ⟨u, u0, u1, ixu⟩ := W.ix (sw l hl2)
      obtain ⟨v, v0, v1, ixv⟩ := W.ix (sw r hr2)
      rw [L9.get 1 rfl]
      walk_at "ev"
      rw [← v_ixDic, ixu, L9.get 1 rfl]
      walk_at "ev"
      rw [← v_ixDic, ixv]
      walk_at "ev"
      refine L9.draw (by decide) (by decide) fun r1 h10 r10 r11 L => ?_
      refine L.draw (by decide) (by decide) fun r2 h11 r20 r21 L => ?_
      refine ⟨by show 5 ≤ sizeLine; decide, L.pickN (by simp) (by simp) fun x hx h12 L => ?_⟩
      obtain ⟨y, rfl, y0, y1⟩ : ∃ v : Int, x = .int v ∧ 0 ≤ v ∧ v ≤ 10001 := by
        simp only [List.mem_cons, List.not_mem_nil, or_false] at hx
        rcases hx with rfl | rfl | rfl | rfl | rfl <;> exact ⟨_, rfl, by omega, by omega⟩
      walk_at "ev"
      have fin : ∀ (g : Int) (h6 : MH) (N : Nd), N.nx = Lw (fun σ hh => ∃ (B : List B1) (x6 x7 x8 x9 : Option D), LV h a c cs hh [(fl, .lst (B.map bD)), (w, .dic kvs)] ∧ B.length = i + 1 ∧ (∀ b ∈ B, BIn (ts ++ [Zs]) b) ∧ σ = [some (.ref a), some (.ref tl), some (.int mood), some (.ref w), x4, some (.ref fl), x6, x7, x8, x9]) → g.natAbs < 2 ^ 30 → LV h a c cs h6 [(fl, .lst (B.map bD)), (w, .dic kvs)] → rd__law_drawn_b2_4 sp__law_pick sp__law_draw N [some (.ref a), some (.ref tl), some (.int mood), some (.ref w), x4, some (.ref fl), some (.int (i : Nat)), some (.str l), some (.str r), some (.int g)] h6 := fun g h6 N hN hg L => by
        unfold rd__law_drawn_b2_4
        walk_at "ev"
        rw [L.get 0 rfl]
        walk_at "ev"
        rw [hN]
        have L' := L.set 0 rfl (.lst ((B ++ [(l, r, g)]).map bD))
        rw [List.map_append] at L'
        refine ⟨trivial, by show 3 ≤ sizeLine; decide, sl_lt (by rw [List.length_map]; omega), Lw.of ⟨B ++ [(l, r, g)], _, _, _, _, by rw [List.map_append]; exact L', by rw [List.length_append, hB]; rfl, fun b hb => ?_, rfl⟩⟩
        rcases List.mem_append.mp hb with hb | hb
        · exact hin b hb
        · rw [List.mem_singleton.mp hb]; exact ⟨hl2, hr2, hg⟩
      unfold rd__law_drawn_b2_3
      walk_at "ev"
      split
      · refine L.draw (by decide) (by decide) fun r3 h13 r30 r31 L => ?_
        walk_at "ev"
        split
        · refine L.draw (by decide) (by decide) fun r5 h14 r50 r51 L => ?_
          walk_at "ev"
          refine L.draw (by decide) (by decide) fun r6 h15 r60 r61 L => ?_
          walk_at "ev"
          refine ⟨by show 4 ≤ sizeLine; decide, L.pickN (by simp) (by simp) fun x hx h16 L => ?_⟩
          obtain ⟨z, rfl, hz⟩ : ∃ v : Int, x = .int v ∧ v.natAbs < 2 ^ 30 := by
            simp only [List.mem_cons, List.not_mem_nil, or_false] at hx
            rcases hx with rfl | rfl | rfl | rfl <;> exact ⟨_, rfl, by omega⟩
          walk_at "ev"
          exact fin z _ _ rfl hz L
        · exact fin _ _ _ rfl (by omega) L
      · rw [if_neg (by decide)]
        exact fin _ _ _ rfl (by omega) L
    · rintro σ hh ⟨B, x6, x7, x8, x9, L, hB, hin, rfl⟩
      rw [rg_len] at hB
      unfold rd__law_drawn_4
      walk_at "ev"
      rw [L.get 0 rfl]
      walk_at "ev"
      exact L.ret fun o k => q B o k (by omega) hin
def sp__law_asked : P1 := fun ds h Q => ∃ (a c : Addr) (cs : List Int) (ev : List Str) (el p : Addr) (kvs : Kvs) (C : CF) (can : Bool), ds = [.ref a, .ref el, .ref p, .bool can] ∧ Dr a c cs h ∧ el ≠ a ∧ p ≠ a ∧ h el = some (.lst (ev.map D.str)) ∧ h p = some (.dic kvs) ∧ DPs kvs (Sq ev) C ∧ (can = true → ∀ l ∈ ev, ∀ r ∈ ev, (C (l, r)).natAbs ≤ 9999) ∧ ev ≠ [] ∧ ev.length ≤ 30 ∧
  ∀ b o, DrO c o → b.1 ∈ ev → b.2.1 ∈ ev → b.2.2.natAbs ≤ 30000 → Q (bD b) (up h a o)
theorem len__law_asked : ∀ ds h Q, sp__law_asked ds h Q → ds.length = 4 := fun ds h Q ⟨_, _, _, _, _, _, _, _, _, e, _⟩ => by rw [e]; rfl
theorem sat__law_asked : ∀ ds h Q, sp__law_asked ds h Q → rd__law_asked sp__law_pick sp__law_draw (endN Q) (startD 8 ds) h := by
  rintro ds h Q ⟨a, c, cs, ev, el, p, kvs, C, can, rfl, d, ea, pa, eel, ep, DP, hC, hne, hev, q⟩
  have L0 := LV.start d
  show rd__law_asked sp__law_pick sp__law_draw (endN Q) [some (.ref a), some (.ref el), some (.ref p), some (.bool can), none, none, none, none] h
  unfold rd__law_asked
  walk_at "ev"
  refine L0.pick (L0.old eel ea) ea (by simpa using hne) (by rw [List.length_map]; omega) fun x hx h1 L1 => ?_
  obtain ⟨l, hl, rfl⟩ := List.mem_map.mp hx
  walk_at "ev"
  unfold rd__law_asked_1
  walk_at "ev"
  refine L1.pick (L1.old eel ea) ea (by simpa using hne) (by rw [List.length_map]; omega) fun x hx h2 L2 => ?_
  obtain ⟨r, hr, rfl⟩ := List.mem_map.mp hx
  walk_at "ev"
  unfold rd__law_asked_2
  walk_at "ev"
  refine L2.draw (by decide) (by decide) fun way h3 w0 w1 L3 => ?_
  walk_at "ev"
  unfold rd__law_asked_3
  walk_at "e0"
  split
  · refine L3.draw (by decide) (by decide) fun g h4 g0 g1 L4 => ?_
    walk_at "e0"
    refine ⟨by show 3 ≤ sizeLine; decide, L4.ret fun o k => q (l, r, g - 20000) o k hl hr (by show (g - 20000).natAbs ≤ 30000; omega)⟩
  · rename_i nw
    have nw : ¬ way = 4 := fun z => nw (decide_eq_true z)
    rw [e_next]
    have fin : ∀ (n : Int) (h5 : MH), LV h a c cs h5 [] → n.natAbs ≤ 9999 → rd__law_asked_5 sp__law_pick sp__law_draw (endN Q) [some (.ref a), some (.ref el), some (.ref p), some (.bool can), some (.str l), some (.str r), some (.int way), some (.int n)] h5 := fun n h5 L5 hn => by
      unfold rd__law_asked_5
      walk_at "e0"
      refine L5.draw (by decide) (by decide) fun g h4 g0 g1 L6 => ?_
      walk_at "e0"
      refine ⟨by show 4 ≤ sizeLine; decide, ?_⟩
      intro t nt
      generalize et : up _ t _ = h7
      have L7 := L6.newE nt et
      rw [L7.get 0 rfl]
      walk_at "e0"
      obtain ⟨j, rfl⟩ := Int.eq_ofNat_of_zero_le w0
      have hj : j < 4 := by omega
      obtain ⟨m, hm, hmb⟩ : ∃ m : Int, [D.int 0, D.int (-1), D.int 0, D.int (g - 4)][j]? = some (.int m) ∧ m.natAbs ≤ 10 := by
        match j, hj with
        | 0, _ => exact ⟨_, rfl, by decide⟩
        | 1, _ => exact ⟨_, rfl, by decide⟩
        | 2, _ => exact ⟨_, rfl, by decide⟩
        | 3, _ => exact ⟨_, rfl, by omega⟩
      rw [atI_of rfl hm]
      walk_at "e0"
      exact ⟨by show 3 ≤ sizeLine; decide, L7.ret fun o k => q (l, r, n + m) o k hl hr (by show (n + m).natAbs ≤ 30000; omega)⟩
    unfold rd__law_asked_4
    walk_at "e0"
    cases can with
    | true =>
      rw [if_pos rfl]
      refine ⟨by show 2 ≤ sizeLine; decide, ?_⟩
      rw [L3.old ep pa]
      walk_at "e0"
      rw [← v_ixDic, dic_pk DP (p := (l, r)) ⟨hl, hr⟩]
      exact fin _ _ L3 (hC rfl l hl r hr)
    | false =>
      rw [if_neg (by decide)]
      refine L3.draw (by decide) (by decide) fun g h4 g0 g1 L4 => ?_
      walk_at "e0"
      exact fin _ _ L4 (by omega)
/-! how follows is told -/
theorem fol_ok {B : List B1} {b : B1} (hB : B.length ≤ 20) (G : ∀ x ∈ B ++ [b], BOk x) : pure? 60 (folD (B ++ [opp b])) = true ∧ (pd (folD (B ++ [opp b]))).showable = true ∧ (pd (folD (B ++ [opp b]))).shown.length ≤ sizeLine := by
  have GB : BGS (B ++ [b]) := fun x hx => ⟨(G x hx).l, (G x hx).r⟩
  have gT := terms_GS GB
  have hT := terms_len (B ++ [b])
  rw [List.length_append, List.length_singleton] at hT
  by_cases h : ∃ s, Sol (B ++ [opp b]) s
  · obtain ⟨s, L, e⟩ := fol_breaks h
    rw [e]
    have S := L.1
    have one : ∀ t ∈ termsF (B ++ [b]), sh 411 (.tup [.str t, .int (s t)]) := fun t ht => by
      have lo := S.lo t
      have hi := S.hi t
      refine sh_tup (c := 202) (n := 2) (fun d hd => ?_) (Nat.le_refl _)
      rcases List.mem_cons.mp hd with rfl | hd
      · exact sh_str (gT t ht).1 (gT t ht).2
      · rw [List.mem_singleton.mp hd]; exact sh_up (sh_int (by omega)) (by decide)
    have two : sh 82603 (pairsD (termsF (B ++ [b])) s) := sh_tup (c := 411) (n := 200) (fun d hd => by
      obtain ⟨t, ht, rfl⟩ := List.mem_map.mp hd
      exact one t ht) (by rw [List.length_map]; omega)
    obtain ⟨x, y⟩ : sh 165213 (.tup [.str (Str.ofString "breaks"), pairsD (termsF (B ++ [b])) s]) := sh_tup (c := 82603) (n := 2) (fun d hd => by
      rcases List.mem_cons.mp hd with rfl | hd
      · exact sh_up (sh_str (n := 6) (by decide +kernel) (by decide)) (by decide)
      · rw [List.mem_singleton.mp hd]; exact two) (Nat.le_refl _)
    refine ⟨?_, x, Nat.le_trans y (by decide)⟩
    show pures? 59 _ = true
    refine pures_of fun d hd => ?_
    rcases List.mem_cons.mp hd with rfl | hd
    · simp [pure?]
    · rw [List.mem_singleton.mp hd]
      show pures? 58 _ = true
      refine pures_of fun d hd => ?_
      obtain ⟨t, ht, rfl⟩ := List.mem_map.mp hd
      show pures? 57 _ = true
      refine pures_of fun d hd => ?_
      rcases List.mem_cons.mp hd with rfl | hd
      · simp [pure?]
      · rw [List.mem_singleton.mp hd]; simp [pure?]
  · obtain ⟨R, e, hR, RD⟩ := fol_follows h
    rw [e]
    rw [terms_opp] at hR
    have gR : ∀ x ∈ R, GS x.1 ∧ GS x.2.1 ∧ x.2.2.natAbs < 2 ^ 64 := fun x hx => by
      rcases List.mem_append.mp (RD.mem x hx) with hm | hm
      · rcases List.mem_append.mp hm with hm | hm
        · have := G x (List.mem_append_left _ hm)
          exact ⟨this.l, this.r, Nat.lt_trans this.g (by decide)⟩
        · rw [List.mem_singleton.mp hm]
          have := G b (by simp)
          exact ⟨this.r, this.l, by have := this.g; show (-b.2.2 - 1).natAbs < 2 ^ 64; omega⟩
      · obtain ⟨t, ht, rfl | rfl⟩ := rgs_mem.mp hm
        · rw [terms_opp] at ht; exact ⟨GS_Z, gT t ht, (show (0 : Int).natAbs < 2 ^ 64 by decide)⟩
        · rw [terms_opp] at ht; exact ⟨gT t ht, GS_Z, (show (9999 : Int).natAbs < 2 ^ 64 by decide)⟩
    have two : sh 100203 (bsD R) := sh_tup (c := 1000) (n := 100) (fun d hd => by
      obtain ⟨x, hx, rfl⟩ := List.mem_map.mp hd
      have := gR x hx
      exact sh_bD this.1 this.2.1 this.2.2) (by rw [List.length_map]; omega)
    obtain ⟨x, y⟩ : sh 200413 (.tup [.str (Str.ofString "follows"), bsD R]) := sh_tup (c := 100203) (n := 2) (fun d hd => by
      rcases List.mem_cons.mp hd with rfl | hd
      · exact sh_up (sh_str (n := 7) (by decide +kernel) (by decide)) (by decide)
      · rw [List.mem_singleton.mp hd]; exact two) (Nat.le_refl _)
    refine ⟨?_, x, Nat.le_trans y (by decide)⟩
    show pures? 59 _ = true
    refine pures_of fun d hd => ?_
    rcases List.mem_cons.mp hd with rfl | hd
    · simp [pure?]
    · rw [List.mem_singleton.mp hd]
      show pures? 58 _ = true
      refine pures_of fun d hd => ?_
      obtain ⟨y, hy, rfl⟩ := List.mem_map.mp hd
      show pures? 57 _ = true
      refine pures_of fun d hd => ?_
      rcases List.mem_cons.mp hd with rfl | hd
      · simp [pure?]
      rcases List.mem_cons.mp hd with rfl | hd
      · simp [pure?]
      · rw [List.mem_singleton.mp hd]; simp [pure?]
end DL
namespace DL
open PySem PySem.Spec PyProof.Rows L2 BF
local macro_rules | `(tactic| walk_at "ev") => `(tactic| try simp only [e_seq, e_next, e_brk, e_cnt, e_drop, e_ret, e_retN, e_ifS, e_asg, e_gN, e_gSb, e_gTp, e_gCn, e_gNl, e_var, e_varK, e_nth0, e_nthS, e_put0, e_putS, e_c, e_op, e_un, e_call, e_nil, e_cons, e_tup, e_lst, e_test, e_asB, e_tru, e_andT, e_orT, e_notT, e_andV, e_orV, e_notV, e_if, e_aug, e_augS, e_sl, e_part, e_partK, e_noPart, e_bm0, e_bm, e_join, e_yes, e_wipe0, e_wipeS, e_lc, e_for, v_add, v_addS, v_addT, v_iadd, v_sub, v_mul, v_fdiv, v_mod, v_pow, v_shl, v_shr, v_neg, v_lt, v_le, v_gt, v_ge, v_eqI, v_neI, v_eqS, v_neS, v_inS, v_ninS, v_inT, v_ninT, v_inR, v_ninR, v_inSeq, v_seqO, v_seqR, v_seqT, v_seqL, v_ixR, v_ixT, v_ixL, v_ixS, v_atK, v_atSK, v_get, v_getL, v_getK, v_set, v_setL, v_setK, v_on1, v_on2, v_lenR, v_lenT, v_lenL, v_lenS, v_seqK, v_tuple, v_list, v_abs, v_intI, v_intB, v_okL, v_isLst, v_app, v_lstK, v_slS, v_slT, v_join, v_is, v_isnot, v_max, v_min, v_iSeq, v_srcT, v_srcL, v_srcS, v_srcR, v_srcO, v_iRg1, v_rg1, v_truN, v_truB, v_truI, v_truS, v_truR, v_truT, v_truRol, v_truL, v_inRol, v_ninRol, v_inO, v_inOd, v_inDic, v_ixO, v_ixOd, v_ixSeq, v_ixDic, v_dgetK, v_ixStr, v_getO, v_getOd, v_setO, v_setOd, v_setDic, v_lenO, v_lenOd, e_dic0, e_disp, e_pairs0, e_pairsS, e_chain, v_bits, v_iRg3, v_rg3, v_iRg2, v_rg2, v_iEn, v_enT, v_enR, v_enO, v_iZp, v_zpT, v_zpR, v_zpO, v_repr, v_strI, v_strS, v_addR, v_and, v_slR, v_slL, v_ltS, v_srtT, v_srtR, v_srtO, v_srtD, v_revR, v_revT, v_isB, v_iZs, v_zsT, v_eqIS, v_neIS, v_eqB, v_neB])
local macro_rules | `(tactic| walk_at "e0") => `(tactic| try simp only [e_seq, e_brk, e_cnt, e_drop, e_ret, e_retN, e_ifS, e_asg, e_gN, e_gSb, e_gTp, e_gCn, e_gNl, e_var, e_varK, e_nth0, e_nthS, e_put0, e_putS, e_c, e_op, e_un, e_call, e_nil, e_cons, e_tup, e_lst, e_test, e_asB, e_tru, e_andT, e_orT, e_notT, e_andV, e_orV, e_notV, e_if, e_aug, e_augS, e_sl, e_part, e_partK, e_noPart, e_bm0, e_bm, e_join, e_yes, e_wipe0, e_wipeS, e_lc, e_for, v_add, v_addS, v_addT, v_iadd, v_sub, v_mul, v_fdiv, v_mod, v_pow, v_shl, v_shr, v_neg, v_lt, v_le, v_gt, v_ge, v_eqI, v_neI, v_eqS, v_neS, v_inS, v_ninS, v_inT, v_ninT, v_inR, v_ninR, v_inSeq, v_seqO, v_seqR, v_seqT, v_seqL, v_ixR, v_ixT, v_ixL, v_ixS, v_atK, v_atSK, v_get, v_getL, v_getK, v_set, v_setL, v_setK, v_on1, v_on2, v_lenR, v_lenT, v_lenL, v_lenS, v_seqK, v_tuple, v_list, v_abs, v_intI, v_intB, v_okL, v_isLst, v_app, v_lstK, v_slS, v_slT, v_join, v_is, v_isnot, v_max, v_min, v_iSeq, v_srcT, v_srcL, v_srcS, v_srcR, v_srcO, v_iRg1, v_rg1, v_truN, v_truB, v_truI, v_truS, v_truR, v_truT, v_truRol, v_truL, v_inRol, v_ninRol, v_inO, v_inOd, v_inDic, v_ixO, v_ixOd, v_ixSeq, v_ixDic, v_dgetK, v_ixStr, v_getO, v_getOd, v_setO, v_setOd, v_setDic, v_lenO, v_lenOd, e_dic0, e_disp, e_pairs0, e_pairsS, e_chain, v_bits, v_iRg3, v_rg3, v_iRg2, v_rg2, v_iEn, v_enT, v_enR, v_enO, v_iZp, v_zpT, v_zpR, v_zpO, v_repr, v_strI, v_strS, v_addR, v_and, v_slR, v_slL, v_ltS, v_srtT, v_srtR, v_srtO, v_srtD, v_revR, v_revT, v_isB, v_iZs, v_zsT, v_eqIS, v_neIS, v_eqB, v_neB])
theorem sl_bs {B : List B1} {lo hi : Option Int} {h : MH} {Q : KD} : slD (bsD B) lo hi h Q = Q (.tup (cutD (B.map bD) lo hi)) h := rfl
theorem cut_sub2 {xs : List D} {lo hi : Option Int} : ∀ y ∈ cutD xs lo hi, y ∈ xs := by
  unfold cutD
  exact fun y hy => List.mem_of_mem_drop (List.mem_of_mem_take hy)
section
variable {Q : KD} {h0 hh : MH} {a c el p al : Addr} {cs : List Int} {B O : List B1} {kvs : Kvs} {ev : List Str} {can : Bool} {ld : D} {x0 x2 x3 x8 x9 x10 x11 x12 x13 : Option D}
def AskOk (ev : List Str) (b : B1) : Prop := b.1 ∈ ev ∧ b.2.1 ∈ ev ∧ b.2.2.natAbs ≤ 30000
/-- what is known of the bounds, the closure and the names -/
structure LwK (B : List B1) (ev : List Str) (kvs : Kvs) (can : Bool) : Prop where
  d : DPs kvs (Sq ev) (closeC ev (cBF B))
  can : can = true ↔ ∀ t ∈ ev, 0 ≤ closeC ev (cBF B) (t, t)
  z : Zs ∈ ev
  B9 : B.length ≤ 9
  e6 : ev.length ≤ 6
  inB : ∀ b ∈ B, b.1 ∈ ev ∧ b.2.1 ∈ ev
  gB : ∀ b ∈ B, BOk b
  gE : ∀ t ∈ ev, GS t
theorem LwK.ask (K : LwK B ev kvs can) {b : B1} (hb : AskOk ev b) : ∀ x ∈ B ++ [b], BOk x := fun x hx => by
  rcases List.mem_append.mp hx with hx | hx
  · exact K.gB x hx
  · rw [List.mem_singleton.mp hx]
    exact ⟨K.gE _ hb.1, K.gE _ hb.2.1, Nat.lt_of_le_of_lt hb.2.2 (by decide)⟩
theorem LwK.terms (K : LwK B ev kvs can) {b : B1} (hb : AskOk ev b) : (termsF (B ++ [b])).length ≤ 20 := by
  have := terms_len (B ++ [b])
  rw [List.length_append, List.length_singleton] at this
  have := K.B9
  omega
theorem law_11 (q : ∀ h', Q (.bool true) h') (K : LwK B ev kvs can) (L : LV h0 a c cs hh [(al, .lst (O.map bD))]) (hO : ∀ b ∈ O, AskOk ev b) (hO0 : 0 < O.length) (hL : LeastD B hh ld) :
    rd_law_11 sp__law_begin sp__law_draw sp__law_pop sp__law_drawn sp__law_closure sp__law_least_worths sp__law_asked sp_follows sp__law_follows sp__law_breaks_by (endN Q) [x0, some (.ref a), x2, x3, some (bsD B), some (.ref el), some (.ref p), some (.bool can), some ld, some (.ref al), some (.str (pd (folD (B ++ [opp (O[0])]))).shown), x11, x12, x13] hh := by
  have hB := K.B9
  have sb := cut_sub2 (xs := B.map bD) (lo := none) (hi := some 2)
  unfold rd_law_11
  walk_at "ev"
  rw [sl_bs, v_srcT]
  refine ⟨fun i σ h' => h' = hh ∧ ∃ y, σ = [x0, some (.ref a), x2, x3, some (bsD B), some (.ref el), some (.ref p), some (.bool can), some ld, some (.ref al), some (.str (pd (folD (B ++ [opp (O[0])]))).shown), y, x12, x13], Lw.of ⟨rfl, _, rfl⟩, fun _ _ _ _ => trivial, ?_, ?_⟩
  · rintro i x σ h' hx ⟨rfl, y, rfl⟩
    obtain ⟨b, hb, rfl⟩ := List.mem_map.mp (sb x (List.mem_of_getElem? hx))
    walk_at "ev"
    unfold rd_law_b2
    walk_at "e0"
    refine ⟨B, b, ld, rfl, by omega, fun x hx => ?_, fun s S => S.b b hb, hL, ?_⟩
    · rcases List.mem_append.mp hx with hx | hx
      · exact ⟨(K.gB x hx).l, (K.gB x hx).r⟩
      · rw [List.mem_singleton.mp hx]; exact ⟨(K.gB b hb).l, (K.gB b hb).r⟩
    · walk_at "e0"
      rw [if_neg (by decide), e_next]
      exact Lw.of ⟨rfl, _, rfl⟩
  · rintro σ h' ⟨rfl, y, rfl⟩
    unfold rd_law_12
    walk_at "e0"
    rw [L.get 0 rfl]
    walk_at "e0"
    rw [atI_of (i := 0) (k := 0) rfl (show (O.map bD)[0]? = some (bD O[0]) by rw [List.getElem?_map, List.getElem?_eq_getElem hO0]; rfl)]
    walk_at "e0"
    have ok := fol_ok (b := O[0]) (by omega) (K.ask (hO _ (List.getElem_mem hO0)))
    refine ⟨B, O[0], rfl, by omega, ok.1, ok.2.1, ok.2.2, ?_⟩
    rw [decide_eq_true rfl]
    exact L.ret fun o k => q _
theorem law_9 (q : ∀ h', Q (.bool true) h') (K : LwK B ev kvs can) (pa : p ≠ a) (ep : hh p = some (.dic kvs)) (L : LV h0 a c cs hh [(al, .lst (O.map bD))]) (hO : ∀ b ∈ O, AskOk ev b) (hO0 : 0 < O.length) (hL : LeastD B hh ld) :
    rd_law_9 sp__law_begin sp__law_draw sp__law_pop sp__law_drawn sp__law_closure sp__law_least_worths sp__law_asked sp_follows sp__law_follows sp__law_breaks_by (endN Q) [x0, some (.ref a), x2, x3, some (bsD B), some (.ref el), some (.ref p), some (.bool can), some ld, some (.ref al), x10, x11, x12, x13] hh := by
  have hB := K.B9
  have ok := fol_ok (b := O[0]) (by omega) (K.ask (hO _ (List.getElem_mem hO0)))
  unfold rd_law_9
  walk_at "e0"
  rw [L.get 0 rfl]
  walk_at "e0"
  rw [atI_of (i := 0) (k := 0) rfl (show (O.map bD)[0]? = some (bD O[0]) by rw [List.getElem?_map, List.getElem?_eq_getElem hO0]; rfl)]
  walk_at "e0"
  refine ⟨B, O[0], rfl, by omega, ok.1, ok.2.1, ok.2.2, ?_⟩
  unfold rd_law_10
  walk_at "ev"
  rw [L.get 0 rfl]
  walk_at "ev"
  refine ⟨fun i σ h' => h' = hh ∧ ∃ y, σ = [x0, some (.ref a), x2, x3, some (bsD B), some (.ref el), some (.ref p), some (.bool can), some ld, some (.ref al), some (.str (pd (folD (B ++ [opp (O[0])]))).shown), y, x12, x13], Lw.of ⟨rfl, _, rfl⟩, fun i σ h' ⟨e, _⟩ => by rw [e]; exact L.get 0 rfl, ?_, ?_⟩
  · rintro i x σ h' hx ⟨rfl, y, rfl⟩
    rw [List.getElem?_map] at hx
    obtain ⟨b, hb, rfl⟩ := Option.map_eq_some_iff.mp hx
    have mb := hO b (List.mem_of_getElem? hb)
    have gk := K.ask mb
    have bgs : BGS (B ++ [b]) := fun x hx => ⟨(gk x hx).l, (gk x hx).r⟩
    obtain ⟨t1, t2⟩ := close_tight K.z K.inB (base_ok B ev) mb.1 mb.2.1
    have fol : (∀ s, Sol B s → s b.1 ≤ s b.2.1 + b.2.2) → ∀ (N : Nd) (σ : Sl), N.nx = Lw (fun σ h2 => h2 = h' ∧ ∃ y, σ = [x0, some (.ref a), x2, x3, some (bsD B), some (.ref el), some (.ref p), some (.bool can), some ld, some (.ref al), some (.str (pd (folD (B ++ [opp (O[0])]))).shown), y, x12, x13]) → σ = [x0, some (.ref a), x2, x3, some (bsD B), some (.ref el), some (.ref p), some (.bool can), some ld, some (.ref al), some (.str (pd (folD (B ++ [opp (O[0])]))).shown), some (bD b), x12, x13] → sp__law_follows [bsD B, bD b, ld] h' fun x h1 => truD x h1 fun c h1 => if (!c) = true then N.rt (.bool false) h1 else dNext N σ h1 := fun hf N σ hN e => by
      refine ⟨B, b, ld, rfl, by omega, bgs, hf, hL, ?_⟩
      show (if (!true) = true then N.rt (.bool false) h' else dNext N σ h')
      rw [if_neg (by decide), e_next, hN, e]
      exact Lw.of ⟨rfl, _, rfl⟩
    walk_at "ev"
    unfold rd_law_b1
    walk_at "e0"
    cases hc : can with
    | false =>
      rw [hc] at fol
      rw [if_pos (by decide), if_pos (by trivial)]
      have no : ¬ ∀ t ∈ ev, 0 ≤ closeC ev (cBF B) (t, t) := fun z => by
        have := K.can.mpr z
        rw [hc] at this; cases this
      exact fol (fun s S => absurd ⟨s, S⟩ (t1 no)) _ _ rfl rfl
    | true =>
      rw [hc] at fol
      have yes := K.can.mp hc
      have T := t2 yes
      rw [if_neg (by decide), bD_0, bD_1]
      refine ⟨by show 2 ≤ sizeLine; decide, ?_⟩
      rw [ep]
      walk_at "e0"
      rw [← v_ixDic, dic_pk K.d (p := (b.1, b.2.1)) ⟨mb.1, mb.2.1⟩, bD_2]
      walk_at "e0"
      by_cases z : closeC ev (cBF B) (b.1, b.2.1) ≤ b.2.2
      · rw [if_pos (decide_eq_true z)]
        exact fol (fun s S => by have := T.all s S; omega) _ _ rfl rfl
      · rw [if_neg (by rw [decide_eq_true_eq]; exact z)]
        obtain ⟨s, S, es⟩ := T.ex
        refine ⟨B, b, rfl, by omega, K.terms mb, bgs, ⟨s, S, by omega⟩, ?_⟩
        walk_at "e0"
        rw [if_neg (by decide), e_next]
        exact Lw.of ⟨rfl, _, rfl⟩
  · rintro σ h' ⟨rfl, y, rfl⟩
    exact law_11 q K L hO hO0 hL
theorem law_8 (q : ∀ h', Q (.bool true) h') (K : LwK B ev kvs can) (L : LV h0 a c cs hh [(p, .dic kvs), (el, .lst (ev.map D.str))]) (hL : LeastD B hh ld) (hd : ∀ q, ld = .ref q → q ≠ a) :
    rd_law_8 sp__law_begin sp__law_draw sp__law_pop sp__law_drawn sp__law_closure sp__law_least_worths sp__law_asked sp_follows sp__law_follows sp__law_breaks_by (endN Q) [x0, some (.ref a), x2, x3, some (bsD B), some (.ref el), some (.ref p), some (.bool can), some ld, x9, x10, x11, x12, x13] hh := by
  have pa := L.na (l := p) (x := .dic kvs) (by simp)
  have ea := L.na (l := el) (x := .lst (ev.map D.str)) (by simp)
  unfold rd_law_8
  walk_at "ev"
  refine ⟨by decide, ?_⟩
  refine lcT_draws L.dr (fun y => ∃ b, AskOk ev b ∧ y = bD b) (by decide) (fun i x o Q' _ k hQ => ?_) fun acc o q5 hl hP k np => ?_
  · have L1 := L.drawn k
    walk_at "ev"
    refine ⟨a, c, cs, ev, el, p, kvs, _, can, rfl, L1.dr, ea, pa, L1.get 1 rfl, L1.get 0 rfl, K.d, fun hc l hl r hr => ?_, (by intro z; have := K.z; rw [z] at this; cases this), by have := K.e6; omega, fun b o' k' h1 h2 h3 => ?_⟩
    · obtain ⟨s, S, e⟩ := ((close_tight K.z K.inB (base_ok B ev) hl hr).2 (K.can.mp hc)).ex
      have := S.lo l; have := S.lo r; have := S.hi l; have := S.hi r
      omega
    · rw [up_up]
      exact hQ _ o' ⟨b, ⟨h1, h2, h3⟩, rfl⟩ k'
  · obtain ⟨O, rfl, hO⟩ : ∃ O : List B1, acc = O.map bD ∧ ∀ b ∈ O, AskOk ev b := by
      clear hl np
      induction acc with
      | nil => exact ⟨[], rfl, by simp⟩
      | cons y r ih =>
        obtain ⟨O, e, q2⟩ := ih fun z hz => hP z (List.mem_cons_of_mem _ hz)
        obtain ⟨b, hb, eb⟩ := hP y (by simp)
        refine ⟨b :: O, by rw [List.map_cons, e, eb], fun z hz => ?_⟩
        rcases List.mem_cons.mp hz with rfl | hz
        · exact hb
        · exact q2 z hz
    have hl5 : O.length = 5 := by rw [List.length_map] at hl; rw [hl]; rfl
    have L1 := L.drawn k
    have L2 := L1.new np (.lst (O.map bD))
    walk_at "ev"
    have hL2 : LeastD B (up (up hh a o) q5 (.lst (O.map bD))) ld := by
      rcases hL.or with z | ⟨q, kv, s, f, e, eq, r⟩
      · exact ⟨.inl z⟩
      · have qa := hd q e
        have e1 : up hh a o q = some (.dic kv) := by rw [up_ne qa]; exact eq
        exact ⟨.inr ⟨q, kv, s, f, e, by rw [up_ne (nef e1 np)]; exact e1, r⟩⟩
    exact law_9 q K pa (L2.get 1 rfl) (L2.sub (by simp)) hO (by omega) hL2
theorem law_6 (q : ∀ h', Q (.bool true) h') (d : DPs kvs (Sq ev) (closeC ev (cBF B))) (z : Zs ∈ ev) (hB : B.length ≤ 9) (he : ev.length ≤ 6) (inB : ∀ b ∈ B, b.1 ∈ ev ∧ b.2.1 ∈ ev) (gB : ∀ b ∈ B, BOk b) (gE : ∀ t ∈ ev, GS t) (L : LV h0 a c cs hh [(p, .dic kvs), (el, .lst (ev.map D.str))]) :
    rd_law_6 sp__law_begin sp__law_draw sp__law_pop sp__law_drawn sp__law_closure sp__law_least_worths sp__law_asked sp_follows sp__law_follows sp__law_breaks_by (endN Q) [x0, some (.ref a), x2, x3, some (bsD B), some (.ref el), some (.ref p), x12, x8, x9, x10, x11, x12, x13] hh := by
  unfold rd_law_6
  walk_at "e0"
  rw [L.get 1 rfl]
  walk_at "e0"
  refine lcT_t ev D.str (fun t => .bool (decide (0 ≤ closeC ev (cBF B) (t, t)))) rfl (Nat.le_of_lt (sl_lt (by omega))) (L.get 1 rfl) (fun t ht Q' hQ => ?_) ?_
  · walk_at "e0"
    refine ⟨by show 2 ≤ sizeLine; decide, ?_⟩
    rw [L.get 0 rfl]
    walk_at "e0"
    rw [← v_ixDic, dic_pk d (p := (t, t)) ⟨ht, ht⟩]
    exact hQ _ le.refl
  intro b1 nb1
  generalize eb1 : up _ b1 _ = h1
  have L1 := L.newE nb1 eb1
  have em : ev.map (fun t => D.bool (decide (0 ≤ closeC ev (cBF B) (t, t)))) = (ev.map fun t => decide (0 ≤ closeC ev (cBF B) (t, t))).map D.bool := by rw [List.map_map]; rfl
  rw [em] at L1
  refine v_all (L1.get 0 rfl) (blsOf_map _) ?_
  have K : LwK B ev kvs ((ev.map fun t => decide (0 ≤ closeC ev (cBF B) (t, t))).all id) := ⟨d, by
    rw [List.all_map, List.all_eq_true]
    exact ⟨fun h t ht => of_decide_eq_true (h t ht), fun h t ht => decide_eq_true (h t ht)⟩, z, hB, he, inB, gB, gE⟩
  generalize (ev.map fun t => decide (0 ≤ closeC ev (cBF B) (t, t))).all id = can at K
  replace L1 := L1.tl
  unfold rd_law_7
  walk_at "e0"
  refine ⟨B, rfl, by omega, fun lp lkvs s f np Ls dd hf hl => ?_, fun n => ?_⟩
  · have la := L1.ne np
    have L2 := L1.new np (.dic lkvs)
    exact law_8 q K L2.tl ⟨.inr ⟨lp, lkvs, s, f, rfl, up_same, Ls, dd, hf, hl⟩⟩ fun q e => by cases e; exact la
  · exact law_8 q K L1 ⟨.inl ⟨rfl, n⟩⟩ fun q e => by cases e
def oddR : List Str := [Str.ofString "a", Str.ofString "now", Str.ofString "asker.level", Str.ofString "thing.level", Str.ofString "00", Str.ofString "", Str.ofString "zz", Str.ofString "b"]
theorem oddR_GS : ∀ x ∈ oddR, GS x := by
  intro x hx
  simp only [oddR, List.mem_cons, List.not_mem_nil, or_false] at hx
  rcases hx with rfl | rfl | rfl | rfl | rfl | rfl | rfl | rfl <;> exact ⟨by decide +kernel, by decide⟩
theorem erase_map {α β : Type} (f : α → β) : ∀ (l : List α) (j : Nat), (l.map f).eraseIdx j = (l.eraseIdx j).map f
  | [], _ => rfl
  | x :: r, 0 => rfl
  | x :: r, j + 1 => by show f x :: (r.map f).eraseIdx j = f x :: (r.eraseIdx j).map f; rw [erase_map f r j]
theorem len_law : ∀ ds h Q, spLaw ds h Q → ds.length = 1 := fun ds h Q ⟨_, e, _⟩ => by rw [e]; rfl
theorem sat_law : ∀ ds h Q, spLaw ds h Q → rd_law sp__law_begin sp__law_draw sp__law_pop sp__law_drawn sp__law_closure sp__law_least_worths sp__law_asked sp_follows sp__law_follows sp__law_breaks_by (endN Q) (startD 14 ds) h := by
  rintro ds h Q ⟨cs, rfl, hcs, q⟩
  show rd_law sp__law_begin sp__law_draw sp__law_pop sp__law_drawn sp__law_closure sp__law_least_worths sp__law_asked sp_follows sp__law_follows sp__law_breaks_by (endN Q) [some (.rol (cs.map D.int)), none, none, none, none, none, none, none, none, none, none, none, none, none] h
  unfold rd_law
  walk_at "ev"
  refine ⟨cs, rfl, hcs, fun a c o na nc ac k0 => ?_⟩
  have d0 : Dr a c cs (up (up h c (.lst (cs.map D.int))) a o) := ⟨⟨o, up_same, k0⟩, by rw [up_ne ac.symm, up_same]⟩
  generalize up (up h c (.lst (cs.map D.int))) a o = h0 at d0
  have L0 := LV.start d0
  walk_at "ev"
  unfold rd_law_1
  walk_at "ev"
  refine ⟨by simp only [List.length_cons, List.length_nil, Nat.reduceAdd]; decide, ?_⟩
  show ∀ p, h0 p = none → rd_law_2 sp__law_begin sp__law_draw sp__law_pop sp__law_drawn sp__law_closure sp__law_least_worths sp__law_asked sp_follows sp__law_follows sp__law_breaks_by _ [some (.rol (cs.map D.int)), some (.ref a), some (.ref p), none, none, none, none, none, none, none, none, none, none, none] (up h0 p (.lst (oddR.map D.str)))
  intro ol nol
  generalize eol : up _ ol _ = h1
  have L1 := L0.newE nol eol
  unfold rd_law_2
  walk_at "ev"
  refine L1.draw (by decide) (by decide) fun r h2 r0 r1 L2 => ?_
  obtain ⟨m, rfl⟩ := Int.eq_ofNat_of_zero_le r0
  have hm : m < 5 := by omega
  walk_at "ev"
  refine ⟨bnd62 (by omega), ?_⟩
  refine ⟨by rw [rg_len]; exact Nat.le_of_lt (sl_lt (by omega)), fun i acc hh => ∃ (xs ts : List Str), LV h0 a c cs hh [(ol, .lst (xs.map D.str))] ∧ xs.length + i = 8 ∧ (∀ x ∈ xs, GS x) ∧ acc = ts.map D.str ∧ ts.length = i ∧ ∀ x ∈ ts, GS x, ⟨_, le.refl, oddR, [], L2, rfl, oddR_GS, rfl, rfl, by simp⟩, fun _ _ _ _ => trivial, ?_, ?_⟩
  · rintro i x acc hh hx ⟨xs, ts, L, hxs, gxs, rfl, hts, gts⟩
    obtain ⟨hi, rfl⟩ := rg_at hx
    walk_at "ev"
    rw [if_pos (by trivial)]
    refine L.pop 0 rfl (by rw [List.length_map]; omega) (by rw [List.length_map]; omega) fun j y h3 hy L3 => ?_
    rw [List.getElem?_map] at hy
    obtain ⟨z, hz, rfl⟩ := Option.map_eq_some_iff.mp hy
    have hj := (List.getElem?_eq_some_iff.mp hz).1
    refine ⟨_, le.refl, xs.eraseIdx j, ts ++ [z], by rw [← erase_map]; exact L3, by rw [List.length_eraseIdx_of_lt hj]; omega, fun x hx => gxs x (List.mem_of_mem_eraseIdx hx), by rw [List.map_append]; rfl, by rw [List.length_append, hts]; rfl, fun x hx => ?_⟩
    rcases List.mem_append.mp hx with hx | hx
    · exact gts x hx
    · rw [List.mem_singleton.mp hx]; exact gxs z (List.mem_of_getElem? hz)
  · rintro acc hh ⟨xs, ts, L, hxs, gxs, rfl, hts, gts⟩ tl ntl
    rw [rg_len] at hxs hts
    generalize etl : up _ tl _ = h3
    have ta := L.ne ntl
    have L3 := L.newE ntl etl
    walk_at "ev"
    unfold rd_law_3
    walk_at "e0"
    refine L3.draw (by decide) (by decide) fun mood h4 m0 m1 L4 => ?_
    walk_at "e0"
    refine ⟨a, c, cs, ts, tl, mood, rfl, L4.dr, ta, L4.get 0 rfl, by omega, fun B o k hB hb => ?_⟩
    have L5 := L4.drawn k
    generalize up h4 a o = h5 at L5
    unfold rd_law_4
    walk_at "e0"
    refine ⟨by decide, ?_⟩
    intro p1 np1
    generalize ep1 : up _ p1 _ = h6
    have L6 := L5.newE np1 ep1
    refine ⟨_, _, L6.get 1 rfl, L6.get 0 rfl, by rw [List.length_map]; exact Nat.le_of_lt (sl_lt (by simp; omega)), ?_⟩
    intro el nel
    generalize eel : up _ el _ = h7
    have ea := L6.ne nel
    have L7 := L6.newE nel eel
    have eE : ts.map D.str ++ [D.str (Str.ofString "0"), D.str (Str.ofString "new")] = (ts ++ [Zs, Str.ofString "new"]).map D.str := by rw [List.map_append]; rfl
    rw [eE] at L7
    have gE : ∀ t ∈ ts ++ [Zs, Str.ofString "new"], GS t := fun t ht => by
      rcases List.mem_append.mp ht with ht | ht
      · exact gts t ht
      · rcases List.mem_cons.mp ht with rfl | ht
        · exact GS_Z
        · rw [List.mem_singleton.mp ht]; exact ⟨by decide +kernel, by decide⟩
    have sub : ∀ x, x ∈ ts ++ [Zs] → x ∈ ts ++ [Zs, Str.ofString "new"] := fun x hx => by
      rcases List.mem_append.mp hx with hx | hx
      · exact List.mem_append_left _ hx
      · rw [List.mem_singleton.mp hx]; simp
    have hz : Zs ∈ ts ++ [Zs, Str.ofString "new"] := by simp
    have hlen : (ts ++ [Zs, Str.ofString "new"]).length ≤ 6 := by rw [List.length_append]; simp; omega
    have inB : ∀ b ∈ B, b.1 ∈ ts ++ [Zs, Str.ofString "new"] ∧ b.2.1 ∈ ts ++ [Zs, Str.ofString "new"] := fun b hb' => ⟨sub _ (hb b hb').l, sub _ (hb b hb').r⟩
    generalize ts ++ [Zs, Str.ofString "new"] = ev at L7 gE sub hz hlen inB
    unfold rd_law_5
    walk_at "e0"
    refine ⟨B, ev, el, rfl, L7.get 0 rfl, by omega, inB, fun p kvs np d => ?_⟩
    have L8 := L7.new np (.dic kvs)
    generalize up h7 p (.dic kvs) = h8 at L8
    exact law_6 q d hz hB hlen inB (fun b hb' => ⟨gE _ (inB b hb').1, gE _ (inB b hb').2, Nat.lt_trans (hb b hb').g (by decide)⟩) gE (L8.sub (vs := [(p, .dic kvs), (el, .lst (ev.map D.str))]) (by simp))
end
end DL
open PySem PySem.Spec PyProof.Rows L2 DL in
theorem DL.all_mk {l : PySem.W.OpenLaw} {w : World} {K : PySem.W.Frag} {h : Heap} {mg : Str → Option Value} {fa : Addr} (X : K.In h) (G : h.Ns mainGlobals mg) (hfa : mg "law" = some (.ref fa))
    {f0 : Addr} {oc0 kV0 dc0 pm0 cd0 ct0 : Value} {od0 an0 : Option Addr} {sl0 : Array (Option Value)}
    {f1 : Addr} {oc1 kV1 dc1 pm1 cd1 ct1 : Value} {od1 an1 : Option Addr} {sl1 : Array (Option Value)}
    {f2 : Addr} {oc2 kV2 dc2 pm2 cd2 ct2 : Value} {od2 an2 : Option Addr} {sl2 : Array (Option Value)}
    {f3 : Addr} {oc3 kV3 dc3 pm3 cd3 ct3 : Value} {od3 an3 : Option Addr} {sl3 : Array (Option Value)}
    {f4 : Addr} {oc4 kV4 dc4 pm4 cd4 ct4 : Value} {od4 an4 : Option Addr} {sl4 : Array (Option Value)}
    {f5 : Addr} {oc5 kV5 dc5 pm5 cd5 ct5 : Value} {od5 an5 : Option Addr} {sl5 : Array (Option Value)}
    {f6 : Addr} {oc6 kV6 dc6 pm6 cd6 ct6 : Value} {od6 an6 : Option Addr} {sl6 : Array (Option Value)}
    {f7 : Addr} {oc7 kV7 dc7 pm7 cd7 ct7 : Value} {od7 an7 : Option Addr} {sl7 : Array (Option Value)}
    {f8 : Addr} {oc8 kV8 dc8 pm8 cd8 ct8 : Value} {od8 an8 : Option Addr} {sl8 : Array (Option Value)}
    {f9 : Addr} {oc9 kV9 dc9 pm9 cd9 ct9 : Value} {od9 an9 : Option Addr} {sl9 : Array (Option Value)}
    {f10 : Addr} {oc10 kV10 dc10 pm10 cd10 ct10 : Value} {od10 an10 : Option Addr} {sl10 : Array (Option Value)}
    {f11 : Addr} {oc11 kV11 dc11 pm11 cd11 ct11 : Value} {od11 an11 : Option Addr} {sl11 : Array (Option Value)}
    {f12 : Addr} {oc12 kV12 dc12 pm12 cd12 ct12 : Value} {od12 an12 : Option Addr} {sl12 : Array (Option Value)}
    {f13 : Addr} {oc13 kV13 dc13 pm13 cd13 ct13 : Value} {od13 an13 : Option Addr} {sl13 : Array (Option Value)}
    {f14 : Addr} {oc14 kV14 dc14 pm14 cd14 ct14 : Value} {od14 an14 : Option Addr} {sl14 : Array (Option Value)}
    {f15 : Addr} {oc15 kV15 dc15 pm15 cd15 ct15 : Value} {od15 an15 : Option Addr} {sl15 : Array (Option Value)}
    {f16 : Addr} {oc16 kV16 dc16 pm16 cd16 ct16 : Value} {od16 an16 : Option Addr} {sl16 : Array (Option Value)}
    {f17 : Addr} {oc17 kV17 dc17 pm17 cd17 ct17 : Value} {od17 an17 : Option Addr} {sl17 : Array (Option Value)}
    {f18 : Addr} {oc18 kV18 dc18 pm18 cd18 ct18 : Value} {od18 an18 : Option Addr} {sl18 : Array (Option Value)}
    {f19 : Addr} {oc19 kV19 dc19 pm19 cd19 ct19 : Value} {od19 an19 : Option Addr} {sl19 : Array (Option Value)}
    {f20 : Addr} {oc20 kV20 dc20 pm20 cd20 ct20 : Value} {od20 an20 : Option Addr} {sl20 : Array (Option Value)}
    {f21 : Addr} {oc21 kV21 dc21 pm21 cd21 ct21 : Value} {od21 an21 : Option Addr} {sl21 : Array (Option Value)}
    {f22 : Addr} {oc22 kV22 dc22 pm22 cd22 ct22 : Value} {od22 an22 : Option Addr} {sl22 : Array (Option Value)}
    {g0 : Value}
    (a0 : PySem.W.nsIn K mainGlobals "terms_of" = some (some (.ref f0))) (l0 : K.lookup f0 = some ⟨oc0, od0, .func (PySem.W.fnOf "terms_of" "terms_of" (defArgs s_terms_of) (defBody s_terms_of) (defScope s_terms_of) .none kV0 dc0 pm0 an0 cd0 ct0), sl0⟩) (c0 : PySem.W.codeIn K cd0 "terms_of" = true) (k0 : PySem.W.keepIn K (.ref f0) = true)
    (a1 : PySem.W.nsIn K mainGlobals "with_range" = some (some (.ref f1))) (l1 : K.lookup f1 = some ⟨oc1, od1, .func (PySem.W.fnOf "with_range" "with_range" (defArgs s_with_range) (defBody s_with_range) (defScope s_with_range) .none kV1 dc1 pm1 an1 cd1 ct1), sl1⟩) (c1 : PySem.W.codeIn K cd1 "with_range" = true) (k1 : PySem.W.keepIn K (.ref f1) = true)
    (a2 : PySem.W.nsIn K mainGlobals "ring_from" = some (some (.ref f2))) (l2 : K.lookup f2 = some ⟨oc2, od2, .func (PySem.W.fnOf "ring_from" "ring_from" (defArgs s_ring_from) (defBody s_ring_from) (defScope s_ring_from) .none kV2 dc2 pm2 an2 cd2 ct2), sl2⟩) (c2 : PySem.W.codeIn K cd2 "ring_from" = true) (k2 : PySem.W.keepIn K (.ref f2) = true)
    (a3 : PySem.W.nsIn K mainGlobals "opposite" = some (some (.ref f3))) (l3 : K.lookup f3 = some ⟨oc3, od3, .func (PySem.W.fnOf "opposite" "opposite" (defArgs s_opposite) (defBody s_opposite) (defScope s_opposite) .none kV3 dc3 pm3 an3 cd3 ct3), sl3⟩) (c3 : PySem.W.codeIn K cd3 "opposite" = true) (k3 : PySem.W.keepIn K (.ref f3) = true)
    (a4 : PySem.W.nsIn K mainGlobals "_law_begin" = some (some (.ref f4))) (l4 : K.lookup f4 = some ⟨oc4, od4, .func (PySem.W.fnOf "_law_begin" "_law_begin" (defArgs s__law_begin) (defBody s__law_begin) (defScope s__law_begin) .none kV4 dc4 pm4 an4 cd4 ct4), sl4⟩) (c4 : PySem.W.codeIn K cd4 "_law_begin" = true) (k4 : PySem.W.keepIn K (.ref f4) = true)
    (a5 : PySem.W.nsIn K mainGlobals "_law_draw" = some (some (.ref f5))) (l5 : K.lookup f5 = some ⟨oc5, od5, .func (PySem.W.fnOf "_law_draw" "_law_draw" (defArgs s__law_draw) (defBody s__law_draw) (defScope s__law_draw) .none kV5 dc5 pm5 an5 cd5 ct5), sl5⟩) (c5 : PySem.W.codeIn K cd5 "_law_draw" = true) (k5 : PySem.W.keepIn K (.ref f5) = true)
    (a6 : PySem.W.nsIn K mainGlobals "_law_is_int" = some (some (.ref f6))) (l6 : K.lookup f6 = some ⟨oc6, od6, .func (PySem.W.fnOf "_law_is_int" "_law_is_int" (defArgs s__law_is_int) (defBody s__law_is_int) (defScope s__law_is_int) .none kV6 dc6 pm6 an6 cd6 ct6), sl6⟩) (c6 : PySem.W.codeIn K cd6 "_law_is_int" = true) (k6 : PySem.W.keepIn K (.ref f6) = true)
    (a7 : PySem.W.nsIn K mainGlobals "_law_terms" = some (some (.ref f7))) (l7 : K.lookup f7 = some ⟨oc7, od7, .func (PySem.W.fnOf "_law_terms" "_law_terms" (defArgs s__law_terms) (defBody s__law_terms) (defScope s__law_terms) .none kV7 dc7 pm7 an7 cd7 ct7), sl7⟩) (c7 : PySem.W.codeIn K cd7 "_law_terms" = true) (k7 : PySem.W.keepIn K (.ref f7) = true)
    (a8 : PySem.W.nsIn K mainGlobals "_law_closure" = some (some (.ref f8))) (l8 : K.lookup f8 = some ⟨oc8, od8, .func (PySem.W.fnOf "_law_closure" "_law_closure" (defArgs s__law_closure) (defBody s__law_closure) (defScope s__law_closure) .none kV8 dc8 pm8 an8 cd8 ct8), sl8⟩) (c8 : PySem.W.codeIn K cd8 "_law_closure" = true) (k8 : PySem.W.keepIn K (.ref f8) = true)
    (a9 : PySem.W.nsIn K mainGlobals "settle" = some (some (.ref f9))) (l9 : K.lookup f9 = some ⟨oc9, od9, .func (PySem.W.fnOf "settle" "settle" (defArgs s_settle) (defBody s_settle) (defScope s_settle) .none kV9 dc9 pm9 an9 cd9 ct9), sl9⟩) (c9 : PySem.W.codeIn K cd9 "settle" = true) (k9 : PySem.W.keepIn K (.ref f9) = true)
    (a10 : PySem.W.nsIn K mainGlobals "_law_pick" = some (some (.ref f10))) (l10 : K.lookup f10 = some ⟨oc10, od10, .func (PySem.W.fnOf "_law_pick" "_law_pick" (defArgs s__law_pick) (defBody s__law_pick) (defScope s__law_pick) .none kV10 dc10 pm10 an10 cd10 ct10), sl10⟩) (c10 : PySem.W.codeIn K cd10 "_law_pick" = true) (k10 : PySem.W.keepIn K (.ref f10) = true)
    (a11 : PySem.W.nsIn K mainGlobals "_law_pop" = some (some (.ref f11))) (l11 : K.lookup f11 = some ⟨oc11, od11, .func (PySem.W.fnOf "_law_pop" "_law_pop" (defArgs s__law_pop) (defBody s__law_pop) (defScope s__law_pop) .none kV11 dc11 pm11 an11 cd11 ct11), sl11⟩) (c11 : PySem.W.codeIn K cd11 "_law_pop" = true) (k11 : PySem.W.keepIn K (.ref f11) = true)
    (a12 : PySem.W.nsIn K mainGlobals "_law_is_rows" = some (some (.ref f12))) (l12 : K.lookup f12 = some ⟨oc12, od12, .func (PySem.W.fnOf "_law_is_rows" "_law_is_rows" (defArgs s__law_is_rows) (defBody s__law_is_rows) (defScope s__law_is_rows) .none kV12 dc12 pm12 an12 cd12 ct12), sl12⟩) (c12 : PySem.W.codeIn K cd12 "_law_is_rows" = true) (k12 : PySem.W.keepIn K (.ref f12) = true)
    (a13 : PySem.W.nsIn K mainGlobals "_law_ranged" = some (some (.ref f13))) (l13 : K.lookup f13 = some ⟨oc13, od13, .func (PySem.W.fnOf "_law_ranged" "_law_ranged" (defArgs s__law_ranged) (defBody s__law_ranged) (defScope s__law_ranged) .none kV13 dc13 pm13 an13 cd13 ct13), sl13⟩) (c13 : PySem.W.codeIn K cd13 "_law_ranged" = true) (k13 : PySem.W.keepIn K (.ref f13) = true)
    (a14 : PySem.W.nsIn K mainGlobals "follows" = some (some (.ref f14))) (l14 : K.lookup f14 = some ⟨oc14, od14, .func (PySem.W.fnOf "follows" "follows" (defArgs s_follows) (defBody s_follows) (defScope s_follows) .none kV14 dc14 pm14 an14 cd14 ct14), sl14⟩) (c14 : PySem.W.codeIn K cd14 "follows" = true) (k14 : PySem.W.keepIn K (.ref f14) = true)
    (a15 : PySem.W.nsIn K mainGlobals "_law_least_worths" = some (some (.ref f15))) (l15 : K.lookup f15 = some ⟨oc15, od15, .func (PySem.W.fnOf "_law_least_worths" "_law_least_worths" (defArgs s__law_least_worths) (defBody s__law_least_worths) (defScope s__law_least_worths) .none kV15 dc15 pm15 an15 cd15 ct15), sl15⟩) (c15 : PySem.W.codeIn K cd15 "_law_least_worths" = true) (k15 : PySem.W.keepIn K (.ref f15) = true)
    (a16 : PySem.W.nsIn K mainGlobals "_law_is_ring" = some (some (.ref f16))) (l16 : K.lookup f16 = some ⟨oc16, od16, .func (PySem.W.fnOf "_law_is_ring" "_law_is_ring" (defArgs s__law_is_ring) (defBody s__law_is_ring) (defScope s__law_is_ring) .none kV16 dc16 pm16 an16 cd16 ct16), sl16⟩) (c16 : PySem.W.codeIn K cd16 "_law_is_ring" = true) (k16 : PySem.W.keepIn K (.ref f16) = true)
    (a17 : PySem.W.nsIn K mainGlobals "_law_drawn" = some (some (.ref f17))) (l17 : K.lookup f17 = some ⟨oc17, od17, .func (PySem.W.fnOf "_law_drawn" "_law_drawn" (defArgs s__law_drawn) (defBody s__law_drawn) (defScope s__law_drawn) .none kV17 dc17 pm17 an17 cd17 ct17), sl17⟩) (c17 : PySem.W.codeIn K cd17 "_law_drawn" = true) (k17 : PySem.W.keepIn K (.ref f17) = true)
    (a18 : PySem.W.nsIn K mainGlobals "_law_asked" = some (some (.ref f18))) (l18 : K.lookup f18 = some ⟨oc18, od18, .func (PySem.W.fnOf "_law_asked" "_law_asked" (defArgs s__law_asked) (defBody s__law_asked) (defScope s__law_asked) .none kV18 dc18 pm18 an18 cd18 ct18), sl18⟩) (c18 : PySem.W.codeIn K cd18 "_law_asked" = true) (k18 : PySem.W.keepIn K (.ref f18) = true)
    (a19 : PySem.W.nsIn K mainGlobals "_law_worths_told" = some (some (.ref f19))) (l19 : K.lookup f19 = some ⟨oc19, od19, .func (PySem.W.fnOf "_law_worths_told" "_law_worths_told" (defArgs s__law_worths_told) (defBody s__law_worths_told) (defScope s__law_worths_told) .none kV19 dc19 pm19 an19 cd19 ct19), sl19⟩) (c19 : PySem.W.codeIn K cd19 "_law_worths_told" = true) (k19 : PySem.W.keepIn K (.ref f19) = true)
    (a20 : PySem.W.nsIn K mainGlobals "_law_follows" = some (some (.ref f20))) (l20 : K.lookup f20 = some ⟨oc20, od20, .func (PySem.W.fnOf "_law_follows" "_law_follows" (defArgs s__law_follows) (defBody s__law_follows) (defScope s__law_follows) .none kV20 dc20 pm20 an20 cd20 ct20), sl20⟩) (c20 : PySem.W.codeIn K cd20 "_law_follows" = true) (k20 : PySem.W.keepIn K (.ref f20) = true)
    (a21 : PySem.W.nsIn K mainGlobals "_law_breaks_by" = some (some (.ref f21))) (l21 : K.lookup f21 = some ⟨oc21, od21, .func (PySem.W.fnOf "_law_breaks_by" "_law_breaks_by" (defArgs s__law_breaks_by) (defBody s__law_breaks_by) (defScope s__law_breaks_by) .none kV21 dc21 pm21 an21 cd21 ct21), sl21⟩) (c21 : PySem.W.codeIn K cd21 "_law_breaks_by" = true) (k21 : PySem.W.keepIn K (.ref f21) = true)
    (a22 : PySem.W.nsIn K mainGlobals "law" = some (some (.ref f22))) (l22 : K.lookup f22 = some ⟨oc22, od22, .func (PySem.W.fnOf "law" "law" (defArgs s_law) (defBody s_law) (defScope s_law) .none kV22 dc22 pm22 an22 cd22 ct22), sl22⟩) (c22 : PySem.W.codeIn K cd22 "law" = true) (k22 : PySem.W.keepIn K (.ref f22) = true)
    (z0 : PySem.W.nsIn K mainGlobals "sorted" = some none)
    (z1 : PySem.W.nsIn K mainGlobals "list" = some none)
    (z2 : PySem.W.nsIn K mainGlobals "range" = some none)
    (z3 : PySem.W.nsIn K mainGlobals "tuple" = some none)
    (z4 : PySem.W.nsIn K mainGlobals "len" = some none)
    (z5 : PySem.W.nsIn K mainGlobals "int" = some none)
    (z6 : PySem.W.nsIn K mainGlobals "abs" = some none)
    (z7 : PySem.W.nsIn K mainGlobals "isinstance" = some none)
    (z8 : PySem.W.nsIn K mainGlobals "bool" = some none)
    (z9 : PySem.W.nsIn K mainGlobals "zip" = some none)
    (z10 : PySem.W.nsIn K mainGlobals "str" = some none)
    (z11 : PySem.W.nsIn K mainGlobals "sum" = some none)
    (z12 : PySem.W.nsIn K mainGlobals "min" = some none)
    (z13 : PySem.W.nsIn K mainGlobals "repr" = some none)
    (z14 : PySem.W.nsIn K mainGlobals "all" = some none)
    (y0 : PySem.W.nsIn K mainGlobals "TOP" = some (some g0)) (x0 : ∃ t, g0 = Value.int 9999 t) :
    ∃ fd : FuncData, (∀ (s : Shared) (v : Value), BindsTo s fd ⟨[v], []⟩ [("_law_script", v)]) ∧ ∀ base : Heap, K.In base → base.Ns mainGlobals mg → FnG l.prog w K mg base 5 fa fd ["_law_script"] (lowS0 K) := by
  have e := hfa.symm.trans (PySem.W.mg_of X G a22)
  cases e
  have B : DL.Blt mg := ⟨PySem.W.mg_none_of X G z0, PySem.W.mg_none_of X G z1, PySem.W.mg_none_of X G z2, PySem.W.mg_none_of X G z3, PySem.W.mg_none_of X G z4, PySem.W.mg_none_of X G z5, PySem.W.mg_none_of X G z6, PySem.W.mg_none_of X G z7, PySem.W.mg_none_of X G z8, PySem.W.mg_none_of X G z9, PySem.W.mg_none_of X G z10, PySem.W.mg_none_of X G z11, PySem.W.mg_none_of X G z12, PySem.W.mg_none_of X G z13, PySem.W.mg_none_of X G z14, (let ⟨t, e⟩ := x0; ⟨t, (PySem.W.mg_of X G y0).trans (congrArg some e)⟩)⟩
  have T_terms_of : TopF K mg "terms_of" "terms_of" s_terms_of ["bounds"] := top_mk X G a0 l0 c0 k0 fun _ _ _ _ _ _ us hl => match us, hl with | [_], _ => rfl
  have T_with_range : TopF K mg "with_range" "with_range" s_with_range ["bounds", "terms"] := top_mk X G a1 l1 c1 k1 fun _ _ _ _ _ _ us hl => match us, hl with | [_, _], _ => rfl
  have T_ring_from : TopF K mg "ring_from" "ring_from" s_ring_from ["front", "term", "many"] := top_mk X G a2 l2 c2 k2 fun _ _ _ _ _ _ us hl => match us, hl with | [_, _, _], _ => rfl
  have T_opposite : TopF K mg "opposite" "opposite" s_opposite ["bound"] := top_mk X G a3 l3 c3 k3 fun _ _ _ _ _ _ us hl => match us, hl with | [_], _ => rfl
  have T__law_begin : TopF K mg "_law_begin" "_law_begin" s__law_begin ["_law_script"] := top_mk X G a4 l4 c4 k4 fun _ _ _ _ _ _ us hl => match us, hl with | [_], _ => rfl
  have T__law_draw : TopF K mg "_law_draw" "_law_draw" s__law_draw ["_law_d", "_law_many"] := top_mk X G a5 l5 c5 k5 fun _ _ _ _ _ _ us hl => match us, hl with | [_, _], _ => rfl
  have T__law_is_int : TopF K mg "_law_is_int" "_law_is_int" s__law_is_int ["_law_thing"] := top_mk X G a6 l6 c6 k6 fun _ _ _ _ _ _ us hl => match us, hl with | [_], _ => rfl
  have T__law_terms : TopF K mg "_law_terms" "_law_terms" s__law_terms ["_law_bounds"] := top_mk X G a7 l7 c7 k7 fun _ _ _ _ _ _ us hl => match us, hl with | [_], _ => rfl
  have T__law_closure : TopF K mg "_law_closure" "_law_closure" s__law_closure ["_law_bounds", "_law_terms_here"] := top_mk X G a8 l8 c8 k8 fun _ _ _ _ _ _ us hl => match us, hl with | [_, _], _ => rfl
  have T_settle : TopF K mg "settle" "settle" s_settle ["bounds"] := top_mk X G a9 l9 c9 k9 fun _ _ _ _ _ _ us hl => match us, hl with | [_], _ => rfl
  have T__law_pick : TopF K mg "_law_pick" "_law_pick" s__law_pick ["_law_d", "_law_row"] := top_mk X G a10 l10 c10 k10 fun _ _ _ _ _ _ us hl => match us, hl with | [_, _], _ => rfl
  have T__law_pop : TopF K mg "_law_pop" "_law_pop" s__law_pop ["_law_d", "_law_row"] := top_mk X G a11 l11 c11 k11 fun _ _ _ _ _ _ us hl => match us, hl with | [_, _], _ => rfl
  have T__law_is_rows : TopF K mg "_law_is_rows" "_law_is_rows" s__law_is_rows ["_law_rows", "_law_kinds"] := top_mk X G a12 l12 c12 k12 fun _ _ _ _ _ _ us hl => match us, hl with | [_, _], _ => rfl
  have T__law_ranged : TopF K mg "_law_ranged" "_law_ranged" s__law_ranged ["_law_bounds"] := top_mk X G a13 l13 c13 k13 fun _ _ _ _ _ _ us hl => match us, hl with | [_], _ => rfl
  have T_follows : TopF K mg "follows" "follows" s_follows ["bounds", "bound"] := top_mk X G a14 l14 c14 k14 fun _ _ _ _ _ _ us hl => match us, hl with | [_, _], _ => rfl
  have T__law_least_worths : TopF K mg "_law_least_worths" "_law_least_worths" s__law_least_worths ["_law_bounds"] := top_mk X G a15 l15 c15 k15 fun _ _ _ _ _ _ us hl => match us, hl with | [_], _ => rfl
  have T__law_is_ring : TopF K mg "_law_is_ring" "_law_is_ring" s__law_is_ring ["_law_bounds", "_law_ring"] := top_mk X G a16 l16 c16 k16 fun _ _ _ _ _ _ us hl => match us, hl with | [_, _], _ => rfl
  have T__law_drawn : TopF K mg "_law_drawn" "_law_drawn" s__law_drawn ["_law_d", "_law_terms_here", "_law_mood"] := top_mk X G a17 l17 c17 k17 fun _ _ _ _ _ _ us hl => match us, hl with | [_, _, _], _ => rfl
  have T__law_asked : TopF K mg "_law_asked" "_law_asked" s__law_asked ["_law_d", "_law_terms_here", "_law_closure_here", "_law_can"] := top_mk X G a18 l18 c18 k18 fun _ _ _ _ _ _ us hl => match us, hl with | [_, _, _, _], _ => rfl
  have T__law_worths_told : TopF K mg "_law_worths_told" "_law_worths_told" s__law_worths_told ["_law_bounds", "_law_bound", "_law_pairs"] := top_mk X G a19 l19 c19 k19 fun _ _ _ _ _ _ us hl => match us, hl with | [_, _, _], _ => rfl
  have T__law_follows : TopF K mg "_law_follows" "_law_follows" s__law_follows ["_law_bounds", "_law_bound", "_law_least"] := top_mk X G a20 l20 c20 k20 fun _ _ _ _ _ _ us hl => match us, hl with | [_, _, _], _ => rfl
  have T__law_breaks_by : TopF K mg "_law_breaks_by" "_law_breaks_by" s__law_breaks_by ["_law_bounds", "_law_bound"] := top_mk X G a21 l21 c21 k21 fun _ _ _ _ _ _ us hl => match us, hl with | [_, _], _ => rfl
  refine ⟨PySem.W.fnOf "law" "law" (defArgs s_law) (defBody s_law) (defScope s_law) .none kV22 dc22 pm22 an22 cd22 ct22, fun s v => .of_eq rfl, fun base _ _ => ?_⟩
  have G_terms_of : Good l.prog w K mg base 1 "terms_of" ["bounds"] sp_terms_of := good_terms_of T_terms_of B len_terms_of sat_terms_of
  have G_with_range : Good l.prog w K mg base 1 "with_range" ["bounds", "terms"] sp_with_range := good_with_range T_with_range B len_with_range sat_with_range
  have G_ring_from : Good l.prog w K mg base 1 "ring_from" ["front", "term", "many"] sp_ring_from := good_ring_from T_ring_from B len_ring_from sat_ring_from
  have G_opposite : Good l.prog w K mg base 1 "opposite" ["bound"] sp_opposite := good_opposite T_opposite B len_opposite sat_opposite
  have G__law_begin : Good l.prog w K mg base 1 "_law_begin" ["_law_script"] sp__law_begin := good__law_begin T__law_begin B len__law_begin sat__law_begin
  have G__law_draw : Good l.prog w K mg base 1 "_law_draw" ["_law_d", "_law_many"] sp__law_draw := good__law_draw T__law_draw B len__law_draw sat__law_draw
  have G__law_is_int : Good l.prog w K mg base 1 "_law_is_int" ["_law_thing"] sp__law_is_int := good__law_is_int T__law_is_int B len__law_is_int sat__law_is_int
  have G__law_terms : Good l.prog w K mg base 1 "_law_terms" ["_law_bounds"] sp__law_terms := good__law_terms T__law_terms B len__law_terms sat__law_terms
  have G__law_closure : Good l.prog w K mg base 1 "_law_closure" ["_law_bounds", "_law_terms_here"] sp__law_closure := good__law_closure T__law_closure B len__law_closure sat__law_closure
  have G_settle : Good l.prog w K mg base 2 "settle" ["bounds"] sp_settle := good_settle T_settle B G_terms_of G_with_range G_ring_from len_settle sat_settle
  have G__law_pick : Good l.prog w K mg base 2 "_law_pick" ["_law_d", "_law_row"] sp__law_pick := good__law_pick T__law_pick B G__law_draw len__law_pick sat__law_pick
  have G__law_pop : Good l.prog w K mg base 2 "_law_pop" ["_law_d", "_law_row"] sp__law_pop := good__law_pop T__law_pop B G__law_draw len__law_pop sat__law_pop
  have G__law_is_rows : Good l.prog w K mg base 2 "_law_is_rows" ["_law_rows", "_law_kinds"] sp__law_is_rows := good__law_is_rows T__law_is_rows B G__law_is_int len__law_is_rows sat__law_is_rows
  have G__law_ranged : Good l.prog w K mg base 2 "_law_ranged" ["_law_bounds"] sp__law_ranged := good__law_ranged T__law_ranged B G__law_terms len__law_ranged sat__law_ranged
  have G_follows : Good l.prog w K mg base 3 "follows" ["bounds", "bound"] sp_follows := good_follows T_follows B G_settle G_opposite len_follows sat_follows
  have G__law_least_worths : Good l.prog w K mg base 3 "_law_least_worths" ["_law_bounds"] sp__law_least_worths := good__law_least_worths T__law_least_worths B G__law_ranged G__law_terms len__law_least_worths sat__law_least_worths
  have G__law_is_ring : Good l.prog w K mg base 3 "_law_is_ring" ["_law_bounds", "_law_ring"] sp__law_is_ring := good__law_is_ring T__law_is_ring B G__law_ranged G__law_is_int len__law_is_ring sat__law_is_ring
  have G__law_drawn : Good l.prog w K mg base 3 "_law_drawn" ["_law_d", "_law_terms_here", "_law_mood"] sp__law_drawn := good__law_drawn T__law_drawn B G__law_pick G__law_draw len__law_drawn sat__law_drawn
  have G__law_asked : Good l.prog w K mg base 3 "_law_asked" ["_law_d", "_law_terms_here", "_law_closure_here", "_law_can"] sp__law_asked := good__law_asked T__law_asked B G__law_pick G__law_draw len__law_asked sat__law_asked
  have G__law_worths_told : Good l.prog w K mg base 3 "_law_worths_told" ["_law_bounds", "_law_bound", "_law_pairs"] sp__law_worths_told := good__law_worths_told T__law_worths_told B G__law_is_rows G__law_terms len__law_worths_told sat__law_worths_told
  have G__law_follows : Good l.prog w K mg base 4 "_law_follows" ["_law_bounds", "_law_bound", "_law_least"] sp__law_follows := good__law_follows T__law_follows B G_follows G__law_is_ring G__law_terms G_settle len__law_follows sat__law_follows
  have G__law_breaks_by : Good l.prog w K mg base 4 "_law_breaks_by" ["_law_bounds", "_law_bound"] sp__law_breaks_by := good__law_breaks_by T__law_breaks_by B G_follows G__law_worths_told G__law_terms G_settle G__law_is_ring len__law_breaks_by sat__law_breaks_by
  exact (fn_law (fun_mk (st := s_law) l22 c22 k22) B G__law_begin G__law_draw G__law_pop G__law_drawn G__law_closure G__law_least_worths G__law_asked G_follows G__law_follows G__law_breaks_by len_law sat_law).imp fun _ _ _ _ q => q w
open PySem PySem.W PyProof.Rows
set_option maxRecDepth 100000 in
set_option maxHeartbeats 0 in
theorem PySem.Challenge.cw_leaveledger_k43_whole_follows_holds : PySem.Challenge.rw_leaveledger_k43_whole_follows.Holds := by
  w_on; o_law; k_head; (case hw => w_witness2)
  k_fill
  refine DL.walk_ofG (l := PySem.Challenge.rw_leaveledger_k43_whole_follows) (n := 63) (k := 5) (x := "_law_script") (sp := fun K => DL.lowS0 K) rfl (by decide) rfl ⟨⟨rfl, by decide, by decide⟩, rfl⟩ (fun w h Y => PySem.W.kIn_of Y) ?F (fun _ _ _ _ hl ho hs => DL.law_start hl ho hs)
  case F =>
    intro w mg fa h KX G hmg
    refine' DL.all_mk KX G hmg ?a0 ?l0 ?c0 ?k0 ?a1 ?l1 ?c1 ?k1 ?a2 ?l2 ?c2 ?k2 ?a3 ?l3 ?c3 ?k3 ?a4 ?l4 ?c4 ?k4 ?a5 ?l5 ?c5 ?k5 ?a6 ?l6 ?c6 ?k6 ?a7 ?l7 ?c7 ?k7 ?a8 ?l8 ?c8 ?k8 ?a9 ?l9 ?c9 ?k9 ?a10 ?l10 ?c10 ?k10 ?a11 ?l11 ?c11 ?k11 ?a12 ?l12 ?c12 ?k12 ?a13 ?l13 ?c13 ?k13 ?a14 ?l14 ?c14 ?k14 ?a15 ?l15 ?c15 ?k15 ?a16 ?l16 ?c16 ?k16 ?a17 ?l17 ?c17 ?k17 ?a18 ?l18 ?c18 ?k18 ?a19 ?l19 ?c19 ?k19 ?a20 ?l20 ?c20 ?k20 ?a21 ?l21 ?c21 ?k21 ?a22 ?l22 ?c22 ?k22 ?z0 ?z1 ?z2 ?z3 ?z4 ?z5 ?z6 ?z7 ?z8 ?z9 ?z10 ?z11 ?z12 ?z13 ?z14 ?y0 ?x0
    (case a0 => k_is)
    (case l0 => k_is)
    (case c0 => k_is)
    (case k0 => k_is)
    (case a1 => k_is)
    (case l1 => k_is)
    (case c1 => k_is)
    (case k1 => k_is)
    (case a2 => k_is)
    (case l2 => k_is)
    (case c2 => k_is)
    (case k2 => k_is)
    (case a3 => k_is)
    (case l3 => k_is)
    (case c3 => k_is)
    (case k3 => k_is)
    (case a4 => k_is)
    (case l4 => k_is)
    (case c4 => k_is)
    (case k4 => k_is)
    (case a5 => k_is)
    (case l5 => k_is)
    (case c5 => k_is)
    (case k5 => k_is)
    (case a6 => k_is)
    (case l6 => k_is)
    (case c6 => k_is)
    (case k6 => k_is)
    (case a7 => k_is)
    (case l7 => k_is)
    (case c7 => k_is)
    (case k7 => k_is)
    (case a8 => k_is)
    (case l8 => k_is)
    (case c8 => k_is)
    (case k8 => k_is)
    (case a9 => k_is)
    (case l9 => k_is)
    (case c9 => k_is)
    (case k9 => k_is)
    (case a10 => k_is)
    (case l10 => k_is)
    (case c10 => k_is)
    (case k10 => k_is)
    (case a11 => k_is)
    (case l11 => k_is)
    (case c11 => k_is)
    (case k11 => k_is)
    (case a12 => k_is)
    (case l12 => k_is)
    (case c12 => k_is)
    (case k12 => k_is)
    (case a13 => k_is)
    (case l13 => k_is)
    (case c13 => k_is)
    (case k13 => k_is)
    (case a14 => k_is)
    (case l14 => k_is)
    (case c14 => k_is)
    (case k14 => k_is)
    (case a15 => k_is)
    (case l15 => k_is)
    (case c15 => k_is)
    (case k15 => k_is)
    (case a16 => k_is)
    (case l16 => k_is)
    (case c16 => k_is)
    (case k16 => k_is)
    (case a17 => k_is)
    (case l17 => k_is)
    (case c17 => k_is)
    (case k17 => k_is)
    (case a18 => k_is)
    (case l18 => k_is)
    (case c18 => k_is)
    (case k18 => k_is)
    (case a19 => k_is)
    (case l19 => k_is)
    (case c19 => k_is)
    (case k19 => k_is)
    (case a20 => k_is)
    (case l20 => k_is)
    (case c20 => k_is)
    (case k20 => k_is)
    (case a21 => k_is)
    (case l21 => k_is)
    (case c21 => k_is)
    (case k21 => k_is)
    (case a22 => k_is)
    (case l22 => k_is)
    (case c22 => k_is)
    (case k22 => k_is)
    (case z0 => k_is)
    (case z1 => k_is)
    (case z2 => k_is)
    (case z3 => k_is)
    (case z4 => k_is)
    (case z5 => k_is)
    (case z6 => k_is)
    (case z7 => k_is)
    (case z8 => k_is)
    (case z9 => k_is)
    (case z10 => k_is)
    (case z11 => k_is)
    (case z12 => k_is)
    (case z13 => k_is)
    (case z14 => k_is)
    (case y0 => k_is)
    (case x0 => exact ⟨_, rfl⟩)
