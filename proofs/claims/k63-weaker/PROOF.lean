import PyProof.Rows.All
import Wide.All
import OpenK.AllK
import Wide.FinOn
import PySem.Challenge.RW_leaveledger_k63_weaker
import HandS.ForMost
import HandS.WordsDict
import KE.KDictKeyed
import HandS.Wide
import HandS.WideBits
import HandS.IsInst
import HandS.TupAny
import HandS.Deep
import HandS.Style
import HandS.Zip
import HandS.More
import KE.GoesMore
import PyProof.StrLawsRepr
import HandS.RaiseMore
import HandS.DictComp
import KE.GoesZip
import KE.GoesEnum
import HandS.Text
import KE.SortCalls
set_option Elab.async false
set_option linter.all false
set_option maxRecDepth 100000
set_option maxHeartbeats 4000000
namespace DL
open PySem PySem.Spec PyProof.Rows L2
/-! ### dicts whose keys are tuples (to depth 8), below the data level -/
abbrev NK := NestedKey
mutual
/-- the value is the key -/
def KIs (K : PySem.W.Frag) (H : Hp) : NK → V → Prop
  | .none, v => v = .non
  | .num i, v => v = .int i ∨ ∃ b, v = .bl b ∧ i = (if b = true then 1 else 0)
  | .text x, v => v = .str x
  | .tup ks, v => ∃ a vs, v = .ref a ∧ SqT K H a vs ∧ KAll K H ks vs
def KAll (K : PySem.W.Frag) (H : Hp) : List NK → List V → Prop
  | [], vs => vs = []
  | k :: ks, vs => ∃ v r, vs = v :: r ∧ KIs K H k v ∧ KAll K H ks r
end
section
variable {X : Cx} {pins : List (Addr × Obj)} {σ : L2.St} {H : Hp} {s : Shared} {a : Addr}
mutual
theorem kis_heap (I : Inv X pins σ H s) : ∀ (k : NK) {v : V} {u : Value}, KIs X.K H k v → RelV v u → NestedIs s.heap k u
  | .none, _, _, q, r => by cases (show _ = _ from q); cases r; exact .none
  | .num i, _, _, q, r => by
    rcases (show _ ∨ _ from q) with rfl | ⟨b, rfl, e⟩
    · obtain ⟨t, rfl⟩ := r; exact .int _ _
    · cases r; exact .bool e
  | .text x, _, _, q, r => by cases (show _ = _ from q); obtain ⟨t, rfl⟩ := r; exact .text _ _
  | .tup ks, _, _, q, r => by
    obtain ⟨b, vs, rfl, st, qs⟩ := q
    cases r
    obtain ⟨its, rs, ⟨o, e, c, n, d⟩, _⟩ := I.tuple st
    exact .tup e c d (by simpa using kall_heap I ks qs rs)
theorem kall_heap (I : Inv X pins σ H s) : ∀ (ks : List NK) {vs : List V} {us : List Value}, KAll X.K H ks vs → Vals vs us → NestedAll s.heap ks us
  | [], _, _, q, r => by cases (show _ = [] from q); cases r; exact .nil
  | k :: ks, _, _, q, r => by
    obtain ⟨v, w, rfl, q1, q2⟩ := q
    cases r with
    | cons r1 r2 => exact .cons (kis_heap I k q1 r1) (kall_heap I ks q2 r2)
end
end
/-- entries: the key, its value, what stands at it -/
abbrev Ent := NK × V × V
def entOk (w : World) (x : Ent) (e : DictEntry) : Prop := e.hash = x.1.hash w ∧ RelV x.2.1 e.key ∧ RelV x.2.2 e.val
def dphi (w : World) (a : Addr) (xs : List Ent) : Heap → Prop := fun h => ∃ o es ep, h.get? a = some o ∧ o.ExactDict ∧ o.data = .dict es ep ∧ Paired (entOk w) xs es.toList
def dobj (w : World) (a : Addr) (xs : List Ent) : HO := .ext (dphi w a xs)
theorem dphi_stay {w : World} {a : Addr} {xs : List Ent} (h1 h2 : Heap) (x : dphi w a xs h1) (k : ∀ o, h1.get? a = some o → h2.get? a = some o) : dphi w a xs h2 :=
  let ⟨o, es, ep, e, r⟩ := x; ⟨o, es, ep, k o e, r⟩
theorem dobj_ok {P : Program} {w : World} {H : Hp} {h : Heap} {a : Addr} {xs : List Ent} (x : dphi w a xs h) : ObjOk P w H h a (dobj w a xs) :=
  ⟨x, let ⟨o, _, _, e, _⟩ := x; ⟨o, e⟩, dphi_stay⟩
/-- what is asked of the keys that stand: tuples, to depth 8, all different -/
structure NDict (X : Cx) (H : Hp) (a : Addr) (xs : List Ent) : Prop where
  at_ : H a = some (dobj X.w a xs)
  low : (a == sysModules) = false
  len : xs.length ≤ sizeLine
  key : ∀ x ∈ xs, (∃ ks, x.1 = .tup ks) ∧ x.1.depth ≤ 8 ∧ KIs X.K H x.1 x.2.1
  nd : (xs.map (·.1)).Nodup
abbrev nkd (X : Cx) : HeapKind X.prog X.w NK := nestedKind X.prog X.w
def entH (x : Ent) (e : DictEntry) : NK × Addr × Value := (x.1, (match e.key with | .ref b => b | _ => 0), e.val)
section
variable {X : Cx} {pins : List (Addr × Obj)} {σ : L2.St} {H : Hp} {s : Shared} {a : Addr} {xs : List Ent}
theorem ents_of (I : Inv X pins σ H s) : ∀ {xs : List Ent} {es : List DictEntry}, Paired (entOk X.w) xs es → (∀ x ∈ xs, (∃ ks, x.1 = .tup ks) ∧ x.1.depth ≤ 8 ∧ KIs X.K H x.1 x.2.1) →
    ∃ ys : List (NK × Addr × Value), es = ys.map (entryOfKey (nkd X)) ∧ (∀ y ∈ ys, (nkd X).is s.heap y.1 y.2.1) ∧ Paired (fun (x : Ent) (y : NK × Addr × Value) => x.1 = y.1 ∧ x.2.1 = .ref y.2.1 ∧ RelV x.2.2 y.2.2) xs ys
  | _, _, .nil, _ => ⟨[], rfl, by simp, .nil⟩
  | _, _, @Paired.cons _ _ _ x e _ _ ⟨h1, h2, h3⟩ t, k => by
    obtain ⟨ys, e1, e2, e3⟩ := ents_of I t fun y hy => k y (by simp [hy])
    obtain ⟨⟨ks, ek⟩, dp, kk⟩ := k x (by simp)
    have ki := kis_heap I _ kk h2
    have kk' := kk
    rw [ek] at kk'
    obtain ⟨b, vs, ev, _, _⟩ := kk'
    rw [ev] at h2 kk
    have eb : e.key = .ref b := h2
    rw [eb] at ki
    refine ⟨(x.1, b, e.val) :: ys, ?_, ?_, .cons ⟨rfl, ev, h3⟩ e3⟩
    · rw [e1, List.map_cons]
      congr 1
      obtain ⟨eh, ekk, evv⟩ := e
      show DictEntry.mk eh ekk evv = DictEntry.mk (x.1.hash X.w) (.ref b) evv
      rw [show eh = x.1.hash X.w from h1, show ekk = .ref b from eb]
    · intro y hy
      rcases List.mem_cons.mp hy with rfl | hy
      · exact ⟨ki, dp⟩
      · exact e2 y hy
theorem ent_keys {xs : List Ent} {ys : List (NK × Addr × Value)} (p : Paired (fun (x : Ent) (y : NK × Addr × Value) => x.1 = y.1 ∧ x.2.1 = .ref y.2.1 ∧ RelV x.2.2 y.2.2) xs ys) : xs.map (·.1) = ys.map (·.1) := by
  induction p with
  | nil => rfl
  | cons q _ ih => rw [List.map_cons, List.map_cons, ih, q.1]
theorem NDict.heap (I : Inv X pins σ H s) (D : NDict X H a xs) : ∃ ys, s.heap.DictOfH (nkd X) a ys ∧ Paired (fun (x : Ent) (y : NK × Addr × Value) => x.1 = y.1 ∧ x.2.1 = .ref y.2.1 ∧ RelV x.2.2 y.2.2) xs ys := by
  obtain ⟨⟨o, es, ep, e, c, d, p⟩, _⟩ := (show ObjOk X.prog X.w H s.heap a (dobj X.w a xs) from I.hok a _ D.at_)
  obtain ⟨ys, e1, e2, e3⟩ := ents_of I p D.key
  have ek := ent_keys e3
  exact ⟨ys, ⟨o, es, ep, e, c, d, e1, e2, by rw [← ek]; exact D.nd⟩, e3⟩
/-- look-ups -/
def entAt (xs : List Ent) (k : NK) : Option V := (xs.find? fun x => decide (x.1 = k)).map (·.2.2)
theorem ent_val {xs : List Ent} {ys : List (NK × Addr × Value)} (p : Paired (fun (x : Ent) (y : NK × Addr × Value) => x.1 = y.1 ∧ x.2.1 = .ref y.2.1 ∧ RelV x.2.2 y.2.2) xs ys) (k : NK) : RelO (entAt xs k) ((atKey ys k).map (·.2)) := by
  induction p with
  | nil => exact True.intro
  | @cons x y _ _ h t ih =>
    unfold entAt atKey at ih ⊢
    by_cases e : x.1 = k
    · rw [List.find?_cons_of_pos (by simp [e]), List.find?_cons_of_pos (by simp [← h.1, e])]
      exact h.2.2
    · rw [List.find?_cons_of_neg (by simp [e]), List.find?_cons_of_neg (by simp [← h.1, e])]
      exact ih
/-- a key that may be asked -/
structure NKey (X : Cx) (H : Hp) (k : NK) (v : V) : Prop where
  tup : ∃ ks, k = .tup ks
  dep : k.depth ≤ 8
  is_ : KIs X.K H k v
theorem NKey.heap (I : Inv X pins σ H s) {k : NK} {v : V} {u : Value} (q : NKey X H k v) (r : RelV v u) : ∃ b, v = .ref b ∧ u = .ref b ∧ (nkd X).is s.heap k b := by
  obtain ⟨⟨ks, rfl⟩, d, i⟩ := q
  have n := kis_heap I _ i r
  obtain ⟨b, vs, rfl, _⟩ := i
  cases r
  exact ⟨b, rfl, rfl, n, d⟩
theorem nroom {A : Around} (hu : A.units + 64 < cLine) : (nkd X).room A.in1 := by show A.units + 1 + 8 < cLine; omega
variable {k : NK} {v : V} {u : Value} {E : Value → Shared → Prop}
theorem n_getItem {Q : Value → Shared → Prop} {r : V} (hu : X.A.units + 64 < cLine) (I : Inv X pins σ H s) (D : NDict X H a xs) (q : NKey X H k v) (rv : RelV v u) (e : entAt xs k = some r) (h : ∀ w' s', Inv X pins σ H s' → RelV r w' → Q w' s') :
    wpAny (model X.prog X.w) X.A (getItem (.ref a) u) Q E s := by
  obtain ⟨ys, dh, p⟩ := D.heap I
  obtain ⟨b, rfl, rfl, ki⟩ := q.heap I rv
  have rel := ent_val p k
  rw [e] at rel
  cases hz : atKey ys k with
  | none => rw [hz] at rel; exact rel.elim
  | some y =>
    rw [hz] at rel
    exact wpAny_getItem_heap (nroom hu) ki dh hz (h _ _ (I.tok _) rel)
theorem n_in {Q : Value → Shared → Prop} (hu : X.A.units + 64 < cLine) (I : Inv X pins σ H s) (D : NDict X H a xs) (q : NKey X H k v) (rv : RelV v u) (h : ∀ s', Inv X pins σ H s' → Q (.bool (entAt xs k).isSome) s') :
    wpAny (model X.prog X.w) X.A (compareOp .In u (.ref a)) Q E s := by
  obtain ⟨ys, dh, p⟩ := D.heap I
  obtain ⟨b, rfl, rfl, ki⟩ := q.heap I rv
  refine wpAny_in_heap (nroom hu) ki D.low dh ?_
  have rel := (ent_val p k).isSome_eq
  rw [Option.isSome_map] at rel
  rw [← rel]; exact h _ (I.tok _)
theorem n_notIn {Q : Value → Shared → Prop} (hu : X.A.units + 64 < cLine) (I : Inv X pins σ H s) (D : NDict X H a xs) (q : NKey X H k v) (rv : RelV v u) (h : ∀ s', Inv X pins σ H s' → Q (.bool (!(entAt xs k).isSome)) s') :
    wpAny (model X.prog X.w) X.A (compareOp .NotIn u (.ref a)) Q E s := by
  obtain ⟨ys, dh, p⟩ := D.heap I
  obtain ⟨b, rfl, rfl, ki⟩ := q.heap I rv
  refine notIn_keyed (nroom hu) ki D.low ⟨ys, dh, rfl⟩ ?_
  rw [valueAt_pairsH, Option.isSome_map]
  have rel := (ent_val p k).isSome_eq
  rw [Option.isSome_map] at rel
  rw [← rel]; exact h _ (I.tok _)
/-- a store: in its place, or at the end -/
def entPut (xs : List Ent) (k : NK) (v r : V) : List Ent := if (entAt xs k).isSome = true then xs.map (fun x => if x.1 = k then (x.1, x.2.1, r) else x) else xs ++ [(k, v, r)]
theorem entPut_keys (xs : List Ent) (k : NK) (v r : V) : (entPut xs k v r).map (·.1) = if (entAt xs k).isSome = true then xs.map (·.1) else xs.map (·.1) ++ [k] := by
  unfold entPut; split
  · rw [List.map_map]; refine List.map_congr_left fun x _ => ?_
    show (if x.1 = k then (x.1, x.2.1, r) else x).1 = x.1
    split <;> rfl
  · rw [List.map_append]; rfl
theorem ent_repl {xs : List Ent} {ys : List (NK × Addr × Value)} (p : Paired (fun (x : Ent) (y : NK × Addr × Value) => x.1 = y.1 ∧ x.2.1 = .ref y.2.1 ∧ RelV x.2.2 y.2.2) xs ys) (k : NK) (r : V) {z : Value} (rz : RelV r z) :
    Paired (fun (x : Ent) (y : NK × Addr × Value) => x.1 = y.1 ∧ x.2.1 = .ref y.2.1 ∧ RelV x.2.2 y.2.2) (xs.map (fun x => if x.1 = k then (x.1, x.2.1, r) else x)) (ys.map (putAt k z)) := by
  induction p with
  | nil => exact .nil
  | @cons x y _ _ h t ih =>
    rw [List.map_cons, List.map_cons]
    refine .cons ?_ ih
    unfold putAt
    by_cases e : x.1 = k
    · rw [if_pos e, if_pos (by rw [← h.1]; exact e)]; exact ⟨h.1, h.2.1, rz⟩
    · rw [if_neg e, if_neg (by rw [← h.1]; exact e)]; exact h
theorem ent_put {xs : List Ent} {ys : List (NK × Addr × Value)} (p : Paired (fun (x : Ent) (y : NK × Addr × Value) => x.1 = y.1 ∧ x.2.1 = .ref y.2.1 ∧ RelV x.2.2 y.2.2) xs ys) (k : NK) (b : Addr) (r : V) {z : Value} (rz : RelV r z) :
    Paired (fun (x : Ent) (y : NK × Addr × Value) => x.1 = y.1 ∧ x.2.1 = .ref y.2.1 ∧ RelV x.2.2 y.2.2) (entPut xs k (.ref b) r) (storedH ys k b z) := by
  have rel := (ent_val p k).isSome_eq
  rw [Option.isSome_map] at rel
  unfold entPut storedH
  rw [rel]
  split
  · exact ent_repl p k r rz
  · exact Paired.snoc p ⟨rfl, rfl, rz⟩
theorem entAt_mem {xs : List Ent} {k : NK} (h : (entAt xs k).isSome = false) : ¬ k ∈ xs.map (·.1) := fun m => by
  obtain ⟨x, hx, e⟩ := List.mem_map.mp m
  unfold entAt at h
  rw [Option.isSome_map, Bool.eq_false_iff] at h
  exact h (List.find?_isSome.mpr ⟨x, hx, by simp [e]⟩)
theorem entPut_nd {xs : List Ent} (k : NK) (v r : V) (h : (xs.map (·.1)).Nodup) : ((entPut xs k v r).map (·.1)).Nodup := by
  rw [entPut_keys]
  cases e : (entAt xs k).isSome with
  | true => exact h
  | false =>
    simp only [Bool.false_eq_true, if_false]
    rw [List.nodup_append]
    refine ⟨h, by simp, fun x hx y hy => ?_⟩
    rw [List.mem_singleton.mp hy]
    intro z; subst z; exact entAt_mem e hx
theorem entPut_len (xs : List Ent) (k : NK) (v r : V) : (entPut xs k v r).length ≤ xs.length + 1 := by
  unfold entPut; split
  · rw [List.length_map]; exact Nat.le_succ _
  · rw [List.length_append]; exact Nat.le_refl _
theorem entPut_mem {xs : List Ent} {k : NK} {v r : V} {P : Ent → Prop} (h : ∀ x ∈ xs, P x) (f : ∀ x, P x → P (x.1, x.2.1, r)) (g : P (k, v, r)) : ∀ x ∈ entPut xs k v r, P x := by
  unfold entPut; split
  · intro x hx
    obtain ⟨y, hy, rfl⟩ := List.mem_map.mp hx
    show P (if y.1 = k then (y.1, y.2.1, r) else y)
    split
    · exact f y (h y hy)
    · exact h y hy
  · intro x hx
    rcases List.mem_append.mp hx with hx | hx
    · exact h x hx
    · rw [List.mem_singleton.mp hx]; exact g
theorem dphi_pair {w : World} {xs : List Ent} {ys : List (NK × Addr × Value)} (p : Paired (fun (x : Ent) (y : NK × Addr × Value) => x.1 = y.1 ∧ x.2.1 = .ref y.2.1 ∧ RelV x.2.2 y.2.2) xs ys) : Paired (entOk X.w) xs (ys.map (entryOfKey (nkd X))) := by
  induction p with
  | nil => exact .nil
  | @cons x y _ _ q _ ih => exact .cons ⟨by rw [q.1]; rfl, by rw [q.2.1]; rfl, q.2.2⟩ ih
/-- the object behind a change of the dict's own object -/
theorem dphi_of {xs : List Ent} {ys : List (NK × Addr × Value)} {h' : Heap} (dh : h'.DictOfH (nkd X) a ys) (p : Paired (fun (x : Ent) (y : NK × Addr × Value) => x.1 = y.1 ∧ x.2.1 = .ref y.2.1 ∧ RelV x.2.2 y.2.2) xs ys) : dphi X.w a xs h' := by
  obtain ⟨o, es, ep, e, c, d, ee, _, _⟩ := dh
  exact ⟨o, es, ep, e, c, d, by rw [ee]; exact dphi_pair (w := X.w) p⟩
theorem n_write {xs' : List Ent} {ys : List (NK × Addr × Value)} {h' : Heap} {t' : Nat} (I : Inv X pins σ H s) (D : NDict X H a xs) (dh : h'.DictOfH (nkd X) a ys) (hs : Heap.SameBut a s.heap h')
    (p : Paired (fun (x : Ent) (y : NK × Addr × Value) => x.1 = y.1 ∧ x.2.1 = .ref y.2.1 ∧ RelV x.2.2 y.2.2) xs' ys) : Inv X pins σ (upd H a (dobj X.w a xs')) { s with heap := h', toks := t' } := by
  have ph := dphi_of dh p
  refine d_write I (by rw [D.at_]; exact True.intro) hs ?_ (dobj_ok ph)
  obtain ⟨o, _, _, e, _⟩ := ph
  exact ⟨o, e⟩
theorem n_setItem {Q : Unit → Shared → Prop} {r : V} {z : Value} (hu : X.A.units + 64 < cLine) (I : Inv X pins σ H s) (D : NDict X H a xs) (q : NKey X H k v) (rv : RelV v u) (rz : RelV r z) (h : ∀ s', Inv X pins σ (upd H a (dobj X.w a (entPut xs k v r))) s' → Q () s') :
    wpAny (model X.prog X.w) X.A (setItem (.ref a) u z) Q E s := by
  obtain ⟨ys, dh, p⟩ := D.heap I
  obtain ⟨b, rfl, rfl, ki⟩ := q.heap I rv
  exact wpAny_setItem_heap (hsz := by rw [← p.length]; exact D.len) (nroom hu) ki dh fun h' dh' hs => h _ (n_write I D dh' hs (ent_put p k b r rz))
theorem n_get {Q : Value → Shared → Prop} {r : V} {z : Value} (hu : X.A.units + 64 < cLine) (I : Inv X pins σ H s) (D : NDict X H a xs) (q : NKey X H k v) (rv : RelV v u) (rz : RelV r z) (h : ∀ w' s', Inv X pins σ H s' → RelV ((entAt xs k).getD r) w' → Q w' s') :
    wpAny (model X.prog X.w) X.A (call (.builtin "dict.get") [.ref a, u, z]) Q E s := by
  obtain ⟨ys, dh, p⟩ := D.heap I
  obtain ⟨b, rfl, rfl, ki⟩ := q.heap I rv
  refine getOr_keyed (nroom hu) ki D.low ⟨ys, dh, rfl⟩ (h _ _ (I.tok _) ?_)
  rw [valueAt_pairsH]
  exact (ent_val p k).getD rz
theorem n_get1 {Q : Value → Shared → Prop} (hu : X.A.units + 64 < cLine) (I : Inv X pins σ H s) (D : NDict X H a xs) (q : NKey X H k v) (rv : RelV v u) (h : ∀ w' s', Inv X pins σ H s' → RelV ((entAt xs k).getD .non) w' → Q w' s') :
    wpAny (model X.prog X.w) X.A (call (.builtin "dict.get") [.ref a, u]) Q E s := by
  obtain ⟨ys, dh, p⟩ := D.heap I
  obtain ⟨b, rfl, rfl, ki⟩ := q.heap I rv
  refine get_keyed (nroom hu) ki D.low ⟨ys, dh, rfl⟩ (h _ _ (I.tok _) ?_)
  rw [valueAt_pairsH]
  exact (ent_val p k).getD (d := V.non) (d' := Value.none) rfl
theorem n_len {Q : Value → Shared → Prop} (I : Inv X pins σ H s) (D : NDict X H a xs) (h : ∀ s' t, Inv X pins σ H s' → Q (.int xs.length t) s') :
    wpAny (model X.prog X.w) X.A (call (.builtin "dict.__len__") [.ref a]) Q E s := by
  obtain ⟨ys, dh, p⟩ := D.heap I
  refine len_keyed D.low ⟨ys, dh, rfl⟩ ?_
  rw [pairsH_length, ← p.length]
  exact h _ _ (I.tok _)
/-- the empty dict is of both kinds -/
theorem empty_n (I : Inv X pins σ H s) (e : H a = some (.dK [])) : Inv X pins σ (upd H a (dobj X.w a [])) s := by
  obtain ⟨z, hd, vs, rel, o, es, ep, h1, h2, h3, _, h5, _⟩ := dk_of I.hok e
  cases rel
  have e0 : es.toList = [] := by cases q : es.toList with | nil => rfl | cons x xs => rw [q] at h5; cases h5
  exact d_write (h' := s.heap) (t' := s.toks) I (by rw [e]; exact True.intro) ⟨rfl, fun _ _ => rfl⟩ ⟨o, h1⟩ (dobj_ok ⟨o, es, ep, h1, h2, h3, by rw [e0]; exact .nil⟩)
theorem empty_k (I : Inv X pins σ H s) (e : H a = some (dobj X.w a [])) (low : (a == sysModules) = false) : Inv X pins σ (upd H a (.dK [])) s := by
  obtain ⟨⟨o, es, ep, h1, h2, h3, p⟩, _⟩ := (show ObjOk X.prog X.w H s.heap a (dobj X.w a []) from I.hok a _ e)
  have e0 : es = #[] := by
    cases q : es.toList with
    | nil => exact Array.toList_eq_nil_iff.mp q
    | cons x xs => rw [q] at p; cases p
  subst e0
  exact d_write (h' := s.heap) (t' := s.toks) I (by rw [e]; exact True.intro) ⟨rfl, fun _ _ => rfl⟩ ⟨o, h1⟩ (dk_new (Nat.zero_le _) low .nil ⟨o, #[], ep, h1, h2, h3, by intro e he; simp at he, by exact .nil, by simp⟩)
end
end DL
namespace DL
open PySem PySem.Spec PyProof.Rows L2
/-! ### data -/
/-- the written part, and the world (of the texts' hashes) -/
structure KW where
  F : PySem.W.Frag
  w : World
abbrev _root_.L2.Cx.kw (X : L2.Cx) : KW := ⟨X.K, X.w⟩
inductive D where
  | none | bool (b : Bool) | int (i : Int) | str (x : Str) | tup (xs : List D) | rol (xs : List D) | ref (a : Addr) | ty (n : String)
deriving Inhabited
/-- a list that nobody writes: locked, or of the written part -/
def ROL (K : KW) (H : Hp) (a : Addr) (xs : List V) : Prop :=
  (∃ o, H a = some (.frz o (.lst xs))) ∨
    ∃ (o : Obj) (its : Array Value) (n : Nat), K.F.lookup a = some o ∧ o.cls = .type "list" ∧ o.dict = none ∧ o.data = .seq its n ∧ its.size ≤ sizeLine ∧ Vals xs its.toList
theorem ROL.sq {K : KW} {H : Hp} {a : Addr} {xs : List V} (h : ROL K H a xs) : SqL K.F H a xs := by
  rcases h with ⟨o, h⟩ | h
  · exact .inl (.inr ⟨o, h⟩)
  · exact .inr h
/-- a text that the rules take -/
def okS (x : Str) : Prop := x.length ≤ sizeLine ∧ PyData.strOk x = true
mutual
def RepV (K : KW) (H : Hp) : D → V → Prop
  | .none, v => v = .non
  | .bool b, v => v = .bl b
  | .int i, v => v = .int i
  | .str x, v => v = .str x ∧ okS x
  | .ref a, v => v = .ref a
  | .ty n, v => v = .ty n
  | .tup ds, v => ∃ a vs, v = .ref a ∧ SqT K.F H a vs ∧ RepVs K H ds vs
  | .rol ds, v => ∃ a vs, v = .ref a ∧ ROL K H a vs ∧ RepVs K H ds vs
def RepVs (K : KW) (H : Hp) : List D → List V → Prop
  | [], vs => vs = []
  | d :: ds, vs => ∃ v r, vs = v :: r ∧ RepV K H d v ∧ RepVs K H ds r
end
/-- what stands for good stands -/
structure Mo (K : KW) (H H' : Hp) : Prop where
  t : ∀ a xs, SqT K.F H a xs → SqT K.F H' a xs
  l : ∀ a xs, ROL K H a xs → ROL K H' a xs
theorem Mo.refl {K : KW} {H : Hp} : Mo K H H := ⟨fun _ _ h => h, fun _ _ h => h⟩
theorem Mo.trans {K : KW} {H H1 H2 : Hp} (a : Mo K H H1) (b : Mo K H1 H2) : Mo K H H2 := ⟨fun c xs h => b.t c xs (a.t c xs h), fun c xs h => b.l c xs (a.l c xs h)⟩
mutual
theorem RepV.mono {K : KW} {H H' : Hp} (m : Mo K H H') : ∀ (d : D) {v : V}, RepV K H d v → RepV K H' d v
  | .none, _, h => h
  | .bool _, _, h => h
  | .int _, _, h => h
  | .str _, _, h => h
  | .ref _, _, h => h
  | .ty _, _, h => h
  | .tup ds, _, h => by
    obtain ⟨a, vs, e, s, r⟩ := h
    exact ⟨a, vs, e, m.t _ _ s, RepVs.mono m ds r⟩
  | .rol ds, _, h => by
    obtain ⟨a, vs, e, s, r⟩ := h
    exact ⟨a, vs, e, m.l _ _ s, RepVs.mono m ds r⟩
theorem RepVs.mono {K : KW} {H H' : Hp} (m : Mo K H H') : ∀ (ds : List D) {vs : List V}, RepVs K H ds vs → RepVs K H' ds vs
  | [], _, h => h
  | d :: ds, _, h => by
    obtain ⟨v, r, e, h1, h2⟩ := h
    exact ⟨v, r, e, RepV.mono m d h1, RepVs.mono m ds h2⟩
end
section
variable {K : KW} {H : Hp}
theorem RepVs.pair : ∀ {ds : List D} {vs : List V}, RepVs K H ds vs → Paired (RepV K H) ds vs
  | [], _, h => by cases (show _ = [] from h); exact .nil
  | d :: ds, _, h => by
    obtain ⟨v, r, rfl, h1, h2⟩ := h
    exact .cons h1 (RepVs.pair h2)
theorem RepVs.of : ∀ {ds : List D} {vs : List V}, Paired (RepV K H) ds vs → RepVs K H ds vs
  | _, _, .nil => rfl
  | _, _, .cons h t => ⟨_, _, rfl, h, RepVs.of t⟩
theorem RepVs.length {ds : List D} {vs : List V} (h : RepVs K H ds vs) : ds.length = vs.length := h.pair.length
theorem RepVs.cons {d : D} {ds : List D} {v : V} {vs : List V} (h : RepV K H d v) (t : RepVs K H ds vs) : RepVs K H (d :: ds) (v :: vs) := ⟨v, vs, rfl, h, t⟩
theorem RepVs.nil : RepVs K H [] [] := rfl
end
section
variable {α β : Type} {R : α → β → Prop}
theorem P2.get : ∀ {xs : List α} {ys : List β} {i : Nat} {x : α}, Paired R xs ys → xs[i]? = some x → ∃ y, ys[i]? = some y ∧ R x y
  | _, _, _, _, .nil, e => by simp at e
  | _, _, 0, _, .cons r _, e => by simp at e; subst e; exact ⟨_, rfl, r⟩
  | _, _, i + 1, x, .cons _ t, e => by
    obtain ⟨u, h1, h2⟩ := P2.get (i := i) (x := x) t (by simpa using e)
    exact ⟨u, by simpa using h1, h2⟩
theorem P2.get' : ∀ {xs : List α} {ys : List β} {i : Nat} {y : β}, Paired R xs ys → ys[i]? = some y → ∃ x, xs[i]? = some x ∧ R x y
  | _, _, _, _, .nil, e => by simp at e
  | _, _, 0, _, .cons r _, e => by simp at e; subst e; exact ⟨_, rfl, r⟩
  | _, _, i + 1, x, .cons _ t, e => by
    obtain ⟨u, h1, h2⟩ := P2.get' (i := i) (y := x) t (by simpa using e)
    exact ⟨u, by simpa using h1, h2⟩
theorem P2.set {x : α} {u : β} (r : R x u) : ∀ {xs : List α} {us : List β} (i : Nat), Paired R xs us → Paired R (xs.set i x) (us.set i u)
  | _, _, _, .nil => .nil
  | _, _, 0, .cons _ t => .cons r t
  | _, _, i + 1, .cons q t => .cons q (P2.set r i t)
theorem P2.append : ∀ {xs ys : List α} {us ws : List β}, Paired R xs us → Paired R ys ws → Paired R (xs ++ ys) (us ++ ws)
  | _, _, _, _, .nil, s => s
  | _, _, _, _, .cons r t, s => .cons r (P2.append t s)
theorem P2.take : ∀ {xs : List α} {us : List β} (n : Nat), Paired R xs us → Paired R (xs.take n) (us.take n)
  | _, _, 0, _ => .nil
  | _, _, _ + 1, .nil => .nil
  | _, _, n + 1, .cons r t => .cons r (P2.take n t)
theorem P2.drop : ∀ {xs : List α} {us : List β} (n : Nat), Paired R xs us → Paired R (xs.drop n) (us.drop n)
  | _, _, 0, r => r
  | _, _, _ + 1, .nil => .nil
  | _, _, n + 1, .cons _ t => P2.drop n t
theorem P2.reverse {xs : List α} {us : List β} (h : Paired R xs us) : Paired R xs.reverse us.reverse := by
  induction h with
  | nil => exact .nil
  | cons r _ ih => rw [List.reverse_cons, List.reverse_cons]; exact P2.append ih (.cons r .nil)
theorem P2.eraseIdx : ∀ {xs : List α} {us : List β} (n : Nat), Paired R xs us → Paired R (xs.eraseIdx n) (us.eraseIdx n)
  | _, _, _, .nil => .nil
  | _, _, 0, .cons _ t => t
  | _, _, n + 1, .cons r t => .cons r (P2.eraseIdx n t)
theorem P2.dropLast {xs : List α} {us : List β} (h : Paired R xs us) : Paired R xs.dropLast us.dropLast := by
  rw [List.dropLast_eq_take, List.dropLast_eq_take, h.length]; exact P2.take _ h
theorem P2.mono {S : α → β → Prop} (f : ∀ a b, R a b → S a b) : ∀ {xs : List α} {us : List β}, Paired R xs us → Paired S xs us
  | _, _, .nil => .nil
  | _, _, .cons r t => .cons (f _ _ r) (P2.mono f t)
end
/-! ### keys -/
mutual
/-- the key that a value is -/
def nk : D → Option NK
  | .none => some .none
  | .bool b => some (.num (if b = true then 1 else 0))
  | .int i => some (.num i)
  | .str x => some (.text x)
  | .tup ds => (nks ds).map .tup
  | .rol _ => none
  | .ref _ => none
  | .ty _ => none
def nks : List D → Option (List NK)
  | [] => some []
  | d :: ds => match nk d, nks ds with
    | some k, some ks => some (k :: ks)
    | _, _ => none
end
mutual
theorem nk_kis {K : KW} {H : Hp} : ∀ (d : D) {v : V} {k : NK}, RepV K H d v → nk d = some k → KIs K.F H k v
  | .none, _, _, r, e => by cases e; exact r
  | .bool b, _, _, r, e => by cases e; exact .inr ⟨b, r, rfl⟩
  | .int i, _, _, r, e => by cases e; exact .inl r
  | .str x, _, _, r, e => by cases e; exact r.1
  | .rol _, _, _, _, e => by cases e
  | .ref _, _, _, _, e => by cases e
  | .ty _, _, _, _, e => by cases e
  | .tup ds, _, _, r, e => by
    obtain ⟨a, vs, ev, st, rs⟩ := r
    unfold nk at e
    obtain ⟨ks, ek, rfl⟩ := Option.map_eq_some_iff.mp e
    exact ⟨a, vs, ev, st, nks_kall ds rs ek⟩
theorem nks_kall {K : KW} {H : Hp} : ∀ (ds : List D) {vs : List V} {ks : List NK}, RepVs K H ds vs → nks ds = some ks → KAll K.F H ks vs
  | [], _, _, r, e => by cases e; exact r
  | d :: ds, _, _, r, e => by
    obtain ⟨v, w, ev, r1, r2⟩ := r
    unfold nks at e
    cases e1 : nk d with
    | none => rw [e1] at e; cases e
    | some k =>
      cases e2 : nks ds with
      | none => rw [e1, e2] at e; cases e
      | some ks =>
        rw [e1, e2] at e; cases e
        exact ⟨v, w, ev, nk_kis d r1 e1, nks_kall ds r2 e2⟩
end
/-- a number or a text -/
def scaK : D → Option L2.Key
  | .int i => some (.inl i)
  | .str x => some (.inr x)
  | _ => none
theorem sca_rep {K : KW} {H : Hp} {d : D} {v : V} {k : L2.Key} (r : RepV K H d v) (e : scaK d = some k) : v = kV k := by
  cases d <;> first | (cases e; done) | skip
  case int i => cases e; exact r
  case str x => cases e; exact r.1
def tupK (d : D) : Bool := match d with
  | .tup _ => match nk d with
    | some k => decide (k.depth ≤ 8)
    | none => false
  | _ => false
theorem tupK_some {d : D} (h : tupK d = true) : ∃ ks, nk d = some (.tup ks) ∧ (NestedKey.tup ks).depth ≤ 8 := by
  cases d with
  | tup ds =>
    unfold tupK at h
    cases e : nk (.tup ds) with
    | none => rw [e] at h; cases h
    | some k =>
      rw [e] at h
      have e2 := e
      unfold nk at e2
      obtain ⟨ks, _, rfl⟩ := Option.map_eq_some_iff.mp e2
      exact ⟨ks, rfl, of_decide_eq_true h⟩
  | _ => cases h
/-! ### the data-level heap -/
abbrev Kvs := List (D × D)
inductive MO where
  | lst (xs : List D)
  | dic (kvs : Kvs)
  | ins (c : Addr) (fs : List (Str × D))
abbrev MH := Addr → Option MO
def up (h : MH) (a : Addr) (o : MO) : MH := fun b => if b = a then some o else h b
theorem up_same {h : MH} {a : Addr} {o : MO} : up h a o a = some o := by unfold up; rw [if_pos rfl]
theorem up_ne {h : MH} {a b : Addr} {o : MO} (n : b ≠ a) : up h a o b = h b := by unfold up; rw [if_neg n]
theorem up_up {h : MH} {a : Addr} {o u : MO} : up (up h a o) a u = up h a u := by
  funext b; unfold up; split <;> rfl
def le (h h' : MH) : Prop := ∀ a o, h a = some o → h' a = some o
theorem le.refl {h : MH} : le h h := fun _ _ e => e
theorem le.trans {h h1 h2 : MH} (a : le h h1) (b : le h1 h2) : le h h2 := fun c o e => b c o (a c o e)
theorem le.up {h : MH} {a : Addr} {o : MO} (n : h a = none) : le h (up h a o) := fun b u e => by
  rw [up_ne (fun z => by rw [z, n] at e; cases e)]; exact e
theorem le.up2 {h h' : MH} {a : Addr} {o : MO} (l : le h h') : le (DL.up h a o) (DL.up h' a o) := fun b u e => by
  unfold DL.up at e ⊢; split at e
  · rename_i z; rw [if_pos z]; exact e
  · rename_i z; rw [if_neg z]; exact l b u e
/-- pairs -/
def RepKs (K : KW) (H : Hp) (kvs : Kvs) (kv : List (L2.Key × V)) : Prop := Paired (fun (p : D × D) (q : L2.Key × V) => scaK p.1 = some q.1 ∧ RepV K H p.1 (kV q.1) ∧ RepV K H p.2 q.2) kvs kv
def RepNs (K : KW) (H : Hp) (kvs : Kvs) (xs : List Ent) : Prop := Paired (fun (p : D × D) (x : Ent) => nk p.1 = some x.1 ∧ RepV K H p.1 x.2.1 ∧ RepV K H p.2 x.2.2) kvs xs
def RepFs (K : KW) (H : Hp) (fs : List (Str × D)) (vs : List (Str × V)) : Prop := Paired (fun (p : Str × D) (q : Str × V) => p.1 = q.1 ∧ RepV K H p.2 q.2) fs vs
/-- a dict with tuples as keys -/
structure RepN (K : KW) (H : Hp) (a : Addr) (kvs : Kvs) (xs : List Ent) : Prop where
  at_ : H a = some (dobj K.w a xs)
  rep : RepNs K H kvs xs
  tup : ∀ p ∈ kvs, tupK p.1 = true
  nd : (xs.map (·.1)).Nodup
  len : kvs.length ≤ sizeLine
  low : (a == sysModules) = false
/-- what stands at an address -/
def RepO (K : KW) (H : Hp) (a : Addr) : MO → Prop
  | .lst ds => ∃ vs, H a = some (.lst vs) ∧ RepVs K H ds vs
  | .dic kvs => (∃ kv, H a = some (.dK kv) ∧ RepKs K H kvs kv) ∨ ∃ xs, RepN K H a kvs xs
  | .ins c fs => ∃ dx vs, H a = some (.ins c dx vs) ∧ RepFs K H fs vs
/-- hidden from the data level -/
def hid : HO → Bool
  | .lst _ => false
  | .dK _ => false
  | .ext _ => false
  | .ins _ _ _ => false
  | _ => true
def RepH (K : KW) (h : MH) (H : Hp) : Prop := ∀ a o, h a = some o → RepO K H a o
/-- hidden things stand -/
def Stp (h : MH) (H : Hp) (h' : MH) (H' : Hp) : Prop := ∀ a o, h a = none → H a = some o → h' a = none ∧ H' a = some o
section
variable {K : KW} {h h' h1 h2 h0 : MH} {H H' H1 H2 : Hp} {a l : Addr} {d : D} {ds : List D} {v : V} {vs : List V} {o0 : MO}
theorem RepH.low (r : RepH K h H) (w : le h0 h) : RepH K h0 H := fun a o e => r a o (w a o e)
theorem Stp.refl : Stp h H h H := fun _ _ a b => ⟨a, b⟩
theorem Stp.trans (a : Stp h H h1 H1) (b : Stp h1 H1 h2 H2) : Stp h H h2 H2 := fun c o e f => let ⟨x, y⟩ := a c o e f; b c o x y
theorem Stp.low (a : Stp h H h1 H1) (w : le h0 h1) : Stp h H h0 H1 := fun c o e f => by
  obtain ⟨x, y⟩ := a c o e f
  refine ⟨?_, y⟩
  cases q : h0 c with
  | none => rfl
  | some u => rw [w c u q] at x; cases x
theorem RepO.hid (x : RepO K H a o0) : ∃ o, H a = some o ∧ hid o = false := by
  cases o0 with
  | lst ds => obtain ⟨vs, e, _⟩ := x; exact ⟨_, e, rfl⟩
  | dic kvs =>
    rcases x with ⟨kv, e, _⟩ | ⟨xs, r⟩
    · exact ⟨_, e, rfl⟩
    · exact ⟨_, r.at_, rfl⟩
  | ins c fs => obtain ⟨dx, vs, e, _⟩ := x; exact ⟨_, e, rfl⟩
theorem RepH.hid (r : RepH K h H) {o : HO} (e : H a = some o) (n : DL.hid o = true) : h a = none := by
  cases q : h a with
  | none => rfl
  | some u =>
    obtain ⟨o2, e2, z⟩ := (r a _ q).hid
    rw [e] at e2; cases e2
    rw [n] at z; cases z
theorem Stp.mo (r : RepH K h H) (s : Stp h H h' H') : Mo K H H' := by
  refine ⟨fun a xs q => ?_, fun a xs q => ?_⟩
  · rcases q with (q | ⟨o, q⟩) | q
    · exact .inl (.inl (s a _ (r.hid q rfl) q).2)
    · exact .inl (.inr ⟨o, (s a _ (r.hid q rfl) q).2⟩)
    · exact .inr q
  · rcases q with ⟨o, q⟩ | q
    · exact .inl ⟨o, (s a _ (r.hid q rfl) q).2⟩
    · exact .inr q
theorem RepO.mono (m : Mo K H H') {o : MO} (q : ∀ u, H a = some u → H' a = some u) (x : RepO K H a o) : RepO K H' a o := by
  cases o with
  | lst ds =>
    obtain ⟨vs, e, r⟩ := x
    exact ⟨vs, q _ e, RepVs.mono m _ r⟩
  | dic kvs =>
    rcases x with ⟨kv, e, r⟩ | ⟨xs, r⟩
    · exact .inl ⟨kv, q _ e, P2.mono (fun _ _ z => ⟨z.1, RepV.mono m _ z.2.1, RepV.mono m _ z.2.2⟩) r⟩
    · exact .inr ⟨xs, ⟨q _ r.at_, P2.mono (fun _ _ z => ⟨z.1, RepV.mono m _ z.2.1, RepV.mono m _ z.2.2⟩) r.rep, r.tup, r.nd, r.len, r.low⟩⟩
  | ins c fs =>
    obtain ⟨dx, vs, e, r⟩ := x
    exact ⟨dx, vs, q _ e, P2.mono (fun _ _ z => ⟨z.1, RepV.mono m _ z.2⟩) r⟩
theorem RepH.nofresh (r : RepH K h H) (n : H l = none) : h l = none := by
  cases q : h l with
  | none => rfl
  | some u =>
    obtain ⟨o2, e2, _⟩ := (r l _ q).hid
    rw [n] at e2; cases e2
/-- something hidden is laid -/
theorem Stp.hide {o : HO} (n : H l = none) : Stp h H h (upd H l o) := fun a u e f => ⟨e, by rw [upd_ne (ne_of_none f n)]; exact f⟩
theorem RepH.hide (r : RepH K h H) {o : HO} (n : H l = none) : RepH K h (upd H l o) := fun a u e =>
  (r a u e).mono (Stp.mo r (Stp.hide n)) fun x f => by rw [upd_ne (ne_of_none f n)]; exact f
/-- a thing is laid -/
theorem Stp.new {o : HO} {u : MO} (n : H l = none) : Stp h H (up h l u) (upd H l o) := fun a x e f =>
  ⟨by rw [up_ne (ne_of_none f n)]; exact e, by rw [upd_ne (ne_of_none f n)]; exact f⟩
theorem RepH.newO (r : RepH K h H) (n : H l = none) {o : HO} {u : MO} (x : RepO K (upd H l o) l u) : RepH K (up h l u) (upd H l o) := fun a w e => by
  have m := Stp.mo r (Stp.hide (o := o) n)
  by_cases q : a = l
  · subst q
    rw [up_same] at e; cases e
    exact x
  · rw [up_ne q] at e
    exact (r a w e).mono m fun x f => by rw [upd_ne q]; exact f
theorem RepH.new (r : RepH K h H) (n : H l = none) (rv : RepVs K H ds vs) : RepH K (up h l (.lst ds)) (upd H l (.lst vs)) :=
  r.newO n ⟨vs, upd_same, RepVs.mono (Stp.mo r (Stp.hide (o := .lst vs) n)) _ rv⟩
/-- a thing is written -/
theorem Stp.write {o : HO} {u x : MO} (e0 : h a = some x) : Stp h H (up h a u) (upd H a o) := fun b y e f => by
  have n : b ≠ a := fun z => by rw [z, e0] at e; cases e
  exact ⟨by rw [up_ne n]; exact e, by rw [upd_ne n]; exact f⟩
theorem RepH.writeO (r : RepH K h H) (e0 : h a = some o0) {o : HO} {u : MO} (x : RepO K (upd H a o) a u) : RepH K (up h a u) (upd H a o) := fun b w e => by
  have m := Stp.mo r (Stp.write (o := o) (u := u) e0)
  by_cases q : b = a
  · subst q
    rw [up_same] at e; cases e
    exact x
  · rw [up_ne q] at e
    exact (r b w e).mono m fun x f => by rw [upd_ne q]; exact f
theorem RepH.write (r : RepH K h H) {ds0 : List D} (e0 : h a = some (.lst ds0)) (rv : RepVs K H ds vs) : RepH K (up h a (.lst ds)) (upd H a (.lst vs)) :=
  r.writeO e0 ⟨vs, upd_same, RepVs.mono (Stp.mo r (Stp.write (o := .lst vs) (u := .lst ds) e0)) _ rv⟩
end
/-! ### the frame -/
abbrev Sl := List (Option D)
def nth : Sl → Nat → Option D
  | [], _ => none
  | x :: _, 0 => x
  | _ :: r, n + 1 => nth r n
def put : Sl → Nat → Option D → Sl
  | [], _, _ => []
  | _ :: r, 0, d => d :: r
  | x :: r, n + 1, d => x :: put r n d
theorem put_len : ∀ (σ : Sl) (i : Nat) (d : Option D), (put σ i d).length = σ.length
  | [], _, _ => rfl
  | _ :: _, 0, _ => rfl
  | _ :: r, n + 1, d => by show (put r n d).length + 1 = r.length + 1; rw [put_len r n d]
theorem nth_put : ∀ (σ : Sl) (i j : Nat) (d : Option D) {e : D}, nth (put σ i d) j = some e → (j = i ∧ d = some e) ∨ (j ≠ i ∧ nth σ j = some e)
  | [], _, _, _, _, h => by cases h
  | x :: r, 0, 0, d, e, h => .inl ⟨rfl, h⟩
  | x :: r, 0, j + 1, d, e, h => .inr ⟨by omega, h⟩
  | x :: r, n + 1, 0, d, e, h => .inr ⟨by omega, h⟩
  | x :: r, n + 1, j + 1, d, e, h => by
    rcases nth_put r n j d h with ⟨a, b⟩ | ⟨a, b⟩
    · exact .inl ⟨by omega, b⟩
    · exact .inr ⟨by omega, b⟩
theorem nth_lt : ∀ (σ : Sl) (i : Nat) {e : D}, nth σ i = some e → i < σ.length
  | [], _, _, h => by cases h
  | _ :: _, 0, _, _ => Nat.zero_lt_succ _
  | _ :: r, n + 1, _, h => Nat.succ_lt_succ (nth_lt r n h)
structure RepE (K : KW) (H : Hp) (σ : Sl) (σV : L2.St) : Prop where
  len : σ.length = σV.length
  val : ∀ i d, nth σ i = some d → ∃ v, σV[i]? = some (some v) ∧ RepV K H d v
section
variable {K : KW} {H H' : Hp} {σ τ : Sl} {σV : L2.St}
theorem RepE.mono (m : Mo K H H') (r : RepE K H σ σV) : RepE K H' σ σV := ⟨r.len, fun i d e => let ⟨v, a, b⟩ := r.val i d e; ⟨v, a, RepV.mono m _ b⟩⟩
theorem RepE.put {i : Nat} {d : D} {v : V} (r : RepE K H σ σV) (rv : RepV K H d v) : RepE K H (put σ i (some d)) (σV.set i (some v)) := by
  refine ⟨by rw [put_len, List.length_set]; exact r.len, fun j e h => ?_⟩
  have hl := nth_lt _ _ h
  rw [put_len, r.len] at hl
  rcases nth_put σ i j _ h with ⟨rfl, q⟩ | ⟨n, q⟩
  · cases q
    exact ⟨v, by rw [List.getElem?_set_self hl], rv⟩
  · obtain ⟨w, a, b⟩ := r.val j e q
    exact ⟨w, by rw [List.getElem?_set_ne (Ne.symm n)]; exact a, b⟩
/-- slots forgotten -/
def leS (τ σ : Sl) : Prop := τ.length = σ.length ∧ ∀ i d, nth τ i = some d → nth σ i = some d
theorem leS.refl : leS σ σ := ⟨rfl, fun _ _ h => h⟩
theorem leS.trans {ρ : Sl} (a : leS ρ τ) (b : leS τ σ) : leS ρ σ := ⟨a.1.trans b.1, fun i d h => b.2 i d (a.2 i d h)⟩
theorem leS.nil : leS [] [] := ⟨rfl, fun _ _ h => h⟩
theorem leS.cons {x : Option D} (a : leS τ σ) : leS (x :: τ) (x :: σ) := ⟨by simp [a.1], fun i d h => by
  cases i with
  | zero => exact h
  | succ n => exact a.2 n d h⟩
theorem leS.skip {x : Option D} (a : leS τ σ) : leS (none :: τ) (x :: σ) := ⟨by simp [a.1], fun i d h => by
  cases i with
  | zero => cases h
  | succ n => exact a.2 n d h⟩
theorem RepE.low (r : RepE K H σ σV) (w : leS τ σ) : RepE K H τ σV := ⟨w.1.trans r.len, fun i d h => r.val i d (w.2 i d h)⟩
end
/-! ### readings of the data level, lowered -/
abbrev KD := D → MH → Prop
abbrev E1 := Sl → MH → KD → Prop
abbrev T1 := Sl → MH → (Bool → MH → Prop) → Prop
abbrev A1 := Sl → MH → (List D → MH → Prop) → Prop
def Cl (K : KW) (h : MH) (H : Hp) (Q : KD) (QV : VK) : Prop := ∀ d h' v H', Stp h H h' H' → RepH K h' H' → RepV K H' d v → Q d h' → QV v H'
def ClB (K : KW) (h : MH) (H : Hp) (Q : Bool → MH → Prop) (QV : Bool → Hp → Prop) : Prop := ∀ b h' H', Stp h H h' H' → RepH K h' H' → Q b h' → QV b H'
def ClA (K : KW) (h : MH) (H : Hp) (Q : List D → MH → Prop) (QV : List V → Hp → Prop) : Prop := ∀ ds h' vs H', Stp h H h' H' → RepH K h' H' → RepVs K H' ds vs → Q ds h' → QV vs H'
def lowE (K : KW) (t : E1) : TE := fun σV H QV => ∃ σ h Q, RepE K H σ σV ∧ RepH K h H ∧ t σ h Q ∧ Cl K h H Q QV
def lowT (K : KW) (t : T1) : TT := fun σV H QV => ∃ σ h Q, RepE K H σ σV ∧ RepH K h H ∧ t σ h Q ∧ ClB K h H Q QV
def lowA (K : KW) (t : A1) : TA := fun σV H QV => ∃ σ h Q, RepE K H σ σV ∧ RepH K h H ∧ t σ h Q ∧ ClA K h H Q QV
theorem Cl.step {K : KW} {h h1 : MH} {H H1 : Hp} {Q : KD} {QV : VK} (s : Stp h H h1 H1) (c : Cl K h H Q QV) : Cl K h1 H1 Q QV := fun d h' v H' s' a b q => c d h' v H' (s.trans s') a b q
theorem ClB.step {K : KW} {h h1 : MH} {H H1 : Hp} {Q : Bool → MH → Prop} {QV : Bool → Hp → Prop} (s : Stp h H h1 H1) (c : ClB K h H Q QV) : ClB K h1 H1 Q QV := fun d h' H' s' a q => c d h' H' (s.trans s') a q
theorem ClA.step {K : KW} {h h1 : MH} {H H1 : Hp} {Q : List D → MH → Prop} {QV : List V → Hp → Prop} (s : Stp h H h1 H1) (c : ClA K h H Q QV) : ClA K h1 H1 Q QV := fun d h' v H' s' a b q => c d h' v H' (s.trans s') a b q
theorem weakE {X : Cx} {e : Expr} {t t' : TE} (p : PE X e t) (w : ∀ σ H Q, t' σ H Q → t σ H Q) : PE X e t' := ⟨fun pins s σ H Q I h => p.run pins s σ H Q I (w σ H Q h)⟩
theorem weakT {X : Cx} {e : Expr} {t t' : TT} (p : PT X e t) (w : ∀ σ H Q, t' σ H Q → t σ H Q) : PT X e t' := ⟨fun pins s σ H Q I h => p.run pins s σ H Q I (w σ H Q h)⟩
theorem weakA {X : Cx} {e : List Expr} {t t' : TA} (p : PA X e t) (w : ∀ σ H Q, t' σ H Q → t σ H Q) : PA X e t' := ⟨fun pos pins s σ H Q I h => p.run pos pins s σ H Q I (w σ H Q h)⟩
abbrev DE (X : Cx) (e : Expr) (t : E1) : Prop := PE X e (lowE X.kw t)
abbrev DT (X : Cx) (e : Expr) (t : T1) : Prop := PT X e (lowT X.kw t)
abbrev DA (X : Cx) (es : List Expr) (t : A1) : Prop := PA X es (lowA X.kw t)
section
variable {X : Cx}
/-! names, constants -/
def dVar (i : Nat) : E1 := fun σ h Q => match nth σ i with | some d => Q d h | none => False
def dC (d : D) : E1 := fun _ h Q => Q d h
theorem de_var (i : Nat) {x : Str} {pos : Pos} (hN : X.N[i]? = some x := by rfl) (hv : Vis X.env.scope x := by first | exact Or.inl rfl | exact Or.inr (Or.inl rfl) | exact Or.inr (Or.inr rfl)) (hd : (x == ("__debug__" : Str)) = false := by decide)
    (hcd : (x == ("__classdict__" : Str)) = false := by decide) : DE X (.Name x pos) (dVar i) := weakE (pe_var hN hv hd hcd) fun σV H QV ⟨σ, h, Q, hE, hH, ht, hc⟩ => by
  unfold dVar at ht
  cases e : nth σ i with
  | none => rw [e] at ht; exact ht.elim
  | some d =>
    rw [e] at ht
    obtain ⟨v, e2, r⟩ := hE.val i d e
    exact ⟨v, e2, hc d h v H Stp.refl hH r ht⟩
theorem de_c {e : Expr} {d : D} {v : V} (p : PE X e (tC v)) (r : ∀ H, RepV X.kw H d v) : DE X e (dC d) := weakE p fun σV H QV ⟨σ, h, Q, hE, hH, ht, hc⟩ => hc d h v H Stp.refl hH (r H) ht
theorem de_int {i j pos} : DE X (.Constant (.int i) j pos) (dC (.int i)) := de_c pe_int fun _ => rfl
theorem de_bl {i j pos} : DE X (.Constant (.bool i) j pos) (dC (.bool i)) := de_c pe_bl fun _ => rfl
theorem de_non {j pos} : DE X (.Constant .none j pos) (dC .none) := de_c pe_non fun _ => rfl
theorem de_str {x j pos} (ok : okS x := by exact ⟨by decide, by decide +kernel⟩) : DE X (.Constant (.str x) j pos) (dC (.str x)) := de_c pe_str fun _ => ⟨rfl, ok⟩
/-- a module's constant that is a number, a text .. -/
theorem de_globI {x : Str} {i : Int} {u : Value} {pos : Pos} (hg : Gl X x) (hm : X.mg x = some u) (r : RelV (.int i) u) (hd : (x == ("__debug__" : Str)) = false := by decide) : DE X (.Name x pos) (dC (.int i)) := de_c (pe_glob hg hm r hd) fun _ => rfl
theorem de_globS {x : Str} {i : Str} {u : Value} {pos : Pos} (hg : Gl X x) (hm : X.mg x = some u) (r : RelV (.str i) u) (ok : okS i := by exact ⟨by decide, by decide +kernel⟩) (hd : (x == ("__debug__" : Str)) = false := by decide) : DE X (.Name x pos) (dC (.str i)) := de_c (pe_glob hg hm r hd) fun _ => ⟨rfl, ok⟩
/-! two-place operations -/
abbrev R1 := D → D → MH → KD → Prop
def lowR (K : KW) (r : R1) : R2 := fun x y H QV => ∃ d e h Q, RepV K H d x ∧ RepV K H e y ∧ RepH K h H ∧ r d e h Q ∧ Cl K h H Q QV
def dOp (r : R1) (ta tb : E1) : E1 := fun σ h Q => ta σ h fun x h1 => tb σ h1 fun y h2 => r x y h2 Q
theorem low_op {K : KW} {r : R1} {ta tb : E1} {σV : L2.St} {H : Hp} {QV : VK} (h : lowE K (dOp r ta tb) σV H QV) : tOp (lowR K r) (lowE K ta) (lowE K tb) σV H QV := by
  obtain ⟨σ, h, Q, hE, hH, ht, hc⟩ := h
  refine ⟨σ, h, _, hE, hH, ht, fun x h1 v1 H1 s1 hH1 r1 q1 => ?_⟩
  refine ⟨σ, h1, _, hE.mono (Stp.mo hH s1), hH1, q1, fun y h2 v2 H2 s2 hH2 r2 q2 => ?_⟩
  exact ⟨x, y, h2, Q, RepV.mono (Stp.mo hH1 s2) _ r1, r2, hH2, q2, hc.step (s1.trans s2)⟩
theorem opR_of {f : Value → Value → Sem Value} {r' : R2} (h : ∀ x y H Q, r' x y H Q → ∃ r, OpR X f r ∧ r x y H Q) : OpR X f r' := fun pins s σ H x y v u Q I rx ry hr =>
  let ⟨r, ho, hq⟩ := h x y H Q hr
  ho pins s σ H x y v u Q I rx ry hq
theorem de_op {op : Operator} {r : R1} {a b : Expr} {ta tb : E1} {pos : Pos} (ho : OpR X (binaryOp op) (lowR X.kw r)) (ha : DE X a ta) (hb : DE X b tb) : DE X (.BinOp a op b pos) (dOp r ta tb) :=
  weakE (pe_op ho ha hb) fun _ _ _ h => low_op h
theorem de_cmpR {op : CmpOp} {r : R1} {a b : Expr} {ta tb : E1} {pos : Pos} (ho : OpR X (compareOp op) (lowR X.kw r)) (ha : DE X a ta) (hb : DE X b tb) (hm : behindInMarks op b = false) : DE X (.Compare a [op] [b] pos) (dOp r ta tb) :=
  weakE (pe_cmpR ho ha hb hm) fun _ _ _ h => low_op h
end
end DL
namespace DL
open PySem PySem.Spec PyProof.Rows L2
/-! ### texts -/
theorem okS.app {x y : Str} (a : okS x) (b : okS y) (h : x.length + y.length ≤ sizeLine) : okS (x ++ y) := by
  refine ⟨by rw [show (x ++ y).length = x.length + y.length from by show (x.cps ++ y.cps).size = _; rw [Array.size_append]; rfl]; exact h, ?_⟩
  have h1 := a.2
  have h2 := b.2
  unfold PyData.strOk at h1 h2 ⊢
  show (x.cps ++ y.cps).all _ = true
  rw [Array.all_append, h1, h2]; rfl
theorem okS.cut {x : Str} (a : okS x) (lo hi : Option Int) : okS (cutS x lo hi) := by
  refine ⟨Nat.le_trans (cutS_length _ _ _) a.1, ?_⟩
  have h1 := a.2
  unfold PyData.strOk at h1 ⊢
  unfold cutS
  rw [← Array.all_toList] at h1 ⊢
  rw [List.all_eq_true] at h1 ⊢
  intro c hc
  exact h1 c (List.mem_of_mem_drop (List.mem_of_mem_take hc))
theorem okS.one {x : Str} {i : Int} {c : Nat} (a : okS x) (h : atI x.cps.toList i = some c) : okS ⟨#[c]⟩ := by
  refine ⟨by show 1 ≤ sizeLine; decide, ?_⟩
  have h1 := a.2
  unfold PyData.strOk at h1 ⊢
  rw [← Array.all_toList] at h1 ⊢
  rw [List.all_eq_true] at h1 ⊢
  intro d hd
  have e : d = c := by simpa using hd
  subst e
  obtain ⟨j, _, hj, _⟩ := atI_get h
  exact h1 d (List.mem_of_getElem? hj)
/-! ### data as PyData -/
mutual
def pd : D → PyData
  | .none => .none
  | .bool b => .bool b
  | .int i => .int i
  | .str x => .str x
  | .tup ds => .tuple (pds ds)
  | .rol ds => .list (pds ds)
  | .ref _ => .none
  | .ty _ => .none
def pds : List D → List PyData
  | [] => []
  | d :: ds => pd d :: pds ds
end
mutual
/-- nothing that can change within; at most n deep -/
def pure? : Nat → D → Bool
  | _, .none => true
  | _, .bool _ => true
  | _, .int _ => true
  | _, .str _ => true
  | n + 1, .tup ds => pures? n ds
  | n + 1, .rol ds => pures? n ds
  | _, _ => false
def pures? : Nat → List D → Bool
  | _, [] => true
  | n, d :: ds => pure? n d && pures? n ds
end
theorem pures_all (n : Nat) : ∀ ds : List D, pures? n ds = ds.all (pure? n)
  | [] => by unfold pures?; rfl
  | d :: ds => by unfold pures?; rw [pures_all n ds]; rfl
mutual
theorem pd_depth : ∀ (n : Nat) (d : D), pure? n d = true → (pd d).depth ≤ n
  | n, .none, _ => by simp [pd, PyData.depth]
  | n, .bool _, _ => by simp [pd, PyData.depth]
  | n, .int _, _ => by simp [pd, PyData.depth]
  | n, .str _, _ => by simp [pd, PyData.depth]
  | 0, .tup ds, h => by simp [pure?] at h
  | n + 1, .tup ds, h => by
    have h' : pures? n ds = true := by simpa [pure?] using h
    have := pds_depth n ds h'
    simp only [pd, PyData.depth]; omega
  | 0, .rol ds, h => by simp [pure?] at h
  | n + 1, .rol ds, h => by
    have h' : pures? n ds = true := by simpa [pure?] using h
    have := pds_depth n ds h'
    simp only [pd, PyData.depth]; omega
  | n, .ref _, h => by simp [pure?] at h
  | n, .ty _, h => by simp [pure?] at h
theorem pds_depth : ∀ (n : Nat) (ds : List D), pures? n ds = true → PyData.depthAll (pds ds) ≤ n
  | n, [], _ => by simp [pds, PyData.depthAll]
  | n, d :: ds, h => by
    have h' : pure? n d = true ∧ pures? n ds = true := by simpa [pures?] using h
    have h1 := pd_depth n d h'.1
    have h2 := pds_depth n ds h'.2
    simp only [pds, PyData.depthAll]; omega
end
section
variable {K : KW} {H : Hp}
mutual
theorem pd_dp : ∀ (n : Nat) (d : D) (v : V), pure? n d = true → RepV K H d v → Dp K.F H v (pd d) ∧ (pd d).canLay0 = true
  | _, .none, v, _, r => by cases (show v = _ from r); exact ⟨.non, by simp [pd, PyData.canLay0]⟩
  | _, .bool b, v, _, r => by cases (show v = _ from r); exact ⟨.bl b, by simp [pd, PyData.canLay0]⟩
  | _, .int b, v, _, r => by cases (show v = _ from r); exact ⟨.int b, by simp [pd, PyData.canLay0]⟩
  | _, .str b, v, _, r => by
    obtain ⟨rfl, ok⟩ := (show v = _ ∧ okS b from r)
    exact ⟨.str b, by simp only [pd, PyData.canLay0]; exact ok.2⟩
  | 0, .tup ds, v, h, r => by simp [pure?] at h
  | n + 1, .tup ds, v, h, r => by
    have h' : pures? n ds = true := by simpa [pure?] using h
    obtain ⟨a, vs, rfl, s, q⟩ := r
    obtain ⟨x, y⟩ := pds_dp n ds vs h' q
    exact ⟨by simp only [pd]; exact .tup s x, by simp only [pd, PyData.canLay0]; exact y⟩
  | 0, .rol ds, v, h, r => by simp [pure?] at h
  | n + 1, .rol ds, v, h, r => by
    have h' : pures? n ds = true := by simpa [pure?] using h
    obtain ⟨a, vs, rfl, s, q⟩ := r
    obtain ⟨x, y⟩ := pds_dp n ds vs h' q
    exact ⟨by simp only [pd]; exact .lst s.sq x, by simp only [pd, PyData.canLay0]; exact y⟩
  | n, .ref _, v, h, r => by simp [pure?] at h
  | n, .ty _, v, h, r => by simp [pure?] at h
theorem pds_dp : ∀ (n : Nat) (ds : List D) (vs : List V), pures? n ds = true → RepVs K H ds vs → DpAll K.F H vs (pds ds) ∧ PyData.canLayAll0 (pds ds) = true
  | n, [], vs, _, r => by cases (show vs = [] from r); exact ⟨by simp only [pds]; exact .nil, by simp [pds, PyData.canLayAll0]⟩
  | n, d :: ds, vs, h, r => by
    have h' : pure? n d = true ∧ pures? n ds = true := by simpa [pures?] using h
    obtain ⟨v, rr, rfl, r1, r2⟩ := r
    obtain ⟨a, b⟩ := pd_dp n d v h'.1 r1
    obtain ⟨c, e⟩ := pds_dp n ds rr h'.2 r2
    exact ⟨by simp only [pds]; exact .cons a c, by simp only [pds, PyData.canLayAll0, b, e]; rfl⟩
end
/-- a list that stands in the heap, or data: as PyData -/
def viewL (ds : List D) : Option PyData := if pures? 60 ds = true then some (.list (pds ds)) else none
def viewP (d : D) : Option PyData := if pure? 60 d = true then some (pd d) else none
def viewO : Option MO → Option PyData
  | some (.lst ds) => viewL ds
  | _ => none
def view (h : MH) : D → Option PyData
  | .ref a => viewO (h a)
  | .none => viewP .none
  | .bool b => viewP (.bool b)
  | .int b => viewP (.int b)
  | .str b => viewP (.str b)
  | .tup b => viewP (.tup b)
  | .rol b => viewP (.rol b)
  | .ty _ => none
theorem viewP_dp {d : D} {v : V} {x : PyData} (r : RepV K H d v) (e : viewP d = some x) : Dp K.F H v x ∧ SeqAt.shaped x = true := by
  unfold viewP at e
  by_cases p : pure? 60 d = true
  · rw [if_pos p] at e
    cases e
    obtain ⟨a, b⟩ := pd_dp 60 d v p r
    refine ⟨a, ?_⟩
    unfold SeqAt.shaped
    rw [b, decide_eq_true (Nat.le_trans (pd_depth 60 d p) (by decide))]; rfl
  · rw [if_neg p] at e; cases e
theorem view_dp {h : MH} (hH : RepH K h H) : ∀ {d : D} {v : V} {x : PyData}, RepV K H d v → view h d = some x → Dp K.F H v x ∧ SeqAt.shaped x = true
  | .none, _, _, r, e => viewP_dp r e
  | .bool _, _, _, r, e => viewP_dp r e
  | .int _, _, _, r, e => viewP_dp r e
  | .str _, _, _, r, e => viewP_dp r e
  | .tup _, _, _, r, e => viewP_dp r e
  | .rol _, _, _, r, e => viewP_dp r e
  | .ty _, _, _, _, e => by cases e
  | .ref a, v, x, r, e => by
    have r' : v = .ref a := r
    subst r'
    have e : viewO (h a) = some x := e
    cases q : h a with
    | none => rw [q] at e; cases e
    | some o =>
      cases o with
      | lst ds =>
        rw [q] at e
        have e : viewL ds = some x := e
        unfold viewL at e
        by_cases p : pures? 60 ds = true
        · rw [if_pos p] at e
          cases e
          obtain ⟨vs, eH, rv⟩ := hH a _ q
          obtain ⟨a1, b1⟩ := pds_dp 60 ds vs p rv
          refine ⟨.lst (SqL.of eH) a1, ?_⟩
          have := pds_depth 60 ds p
          have dd : PyData.depth (.list (pds ds)) ≤ 64 := by simp only [PyData.depth]; omega
          unfold SeqAt.shaped
          rw [decide_eq_true dd]
          simp only [PyData.canLay0, b1]; rfl
        · rw [if_neg p] at e; cases e
      | dic _ => rw [q] at e; cases e
      | ins _ _ => rw [q] at e; cases e
end
/-! ### operators -/
def mulOk (i j : Int) : Prop := (-(2 ^ 64) < i ∧ i < 2 ^ 64) ∨ (-(2 ^ 64) < j ∧ j < 2 ^ 64)
def divOk (j : Int) : Prop := 0 < j ∧ j.natAbs.log2 < 9000
def addD : R1 := fun x y h Q => match x, y with
  | .int i, .int j => Q (.int (i + j)) h
  | .str a, .str b => a.length + b.length ≤ sizeLine ∧ Q (.str (a ++ b)) h
  | .tup a, .tup b => a.length + b.length ≤ sizeLine ∧ Q (.tup (a ++ b)) h
  | .ref p, .ref q => ∃ a b, h p = some (.lst a) ∧ h q = some (.lst b) ∧ a.length + b.length ≤ sizeLine ∧ ∀ l, h l = none → Q (.ref l) (up h l (.lst (a ++ b)))
  | _, _ => False
def subD : R1 := fun x y h Q => match x, y with
  | .int i, .int j => Q (.int (i - j)) h
  | _, _ => False
def mulD : R1 := fun x y h Q => match x, y with
  | .int i, .int j => mulOk i j ∧ Q (.int (i * j)) h
  | .ref p, .int k => ∃ a, h p = some (.lst a) ∧ (-(2 ^ 63) ≤ k ∧ k < 2 ^ 63) ∧ a.length * k.toNat ≤ sizeLine ∧ ∀ l, h l = none → Q (.ref l) (up h l (.lst (List.replicate k.toNat a).flatten))
  | _, _ => False
def fdivD : R1 := fun x y h Q => match x, y with
  | .int i, .int j => divOk j ∧ Q (.int (i / j)) h
  | _, _ => False
def modD : R1 := fun x y h Q => match x, y with
  | .int i, .int j => 0 < j ∧ Q (.int (i % j)) h
  | _, _ => False
def powD : R1 := fun x y h Q => match x, y with
  | .int i, .int j => CPow i j ∧ Q (.int (i ^ j.toNat)) h
  | _, _ => False
def shlD : R1 := fun x y h Q => match x, y with
  | .int i, .int j => CPow i j ∧ Q (.int (i * 2 ^ j.toNat)) h
  | _, _ => False
def shrD : R1 := fun x y h Q => match x, y with
  | .int i, .int j => 0 ≤ j ∧ Q (.int (i / 2 ^ j.toNat)) h
  | _, _ => False
def andD : R1 := fun x y h Q => match x, y with
  | .int i, .int j => Q (.int (Builtin.bitAnd i j)) h
  | _, _ => False
section
variable {K : KW} {h : MH} {H : Hp} {Q : KD} {QV : VK}
theorem Cl.int (c : Cl K h H Q QV) (hH : RepH K h H) {i : Int} (q : Q (.int i) h) : QV (.int i) H := c (.int i) h _ H Stp.refl hH rfl q
theorem Cl.bl (c : Cl K h H Q QV) (hH : RepH K h H) {i : Bool} (q : Q (.bool i) h) : QV (.bl i) H := c (.bool i) h _ H Stp.refl hH rfl q
theorem Cl.non (c : Cl K h H Q QV) (hH : RepH K h H) (q : Q .none h) : QV .non H := c .none h _ H Stp.refl hH rfl q
theorem Cl.str (c : Cl K h H Q QV) (hH : RepH K h H) {x : Str} (o : okS x) (q : Q (.str x) h) : QV (.str x) H := c (.str x) h _ H Stp.refl hH ⟨rfl, o⟩ q
theorem Cl.val (c : Cl K h H Q QV) (hH : RepH K h H) {d : D} {v : V} (r : RepV K H d v) (q : Q d h) : QV v H := c d h _ H Stp.refl hH r q
theorem Cl.new (c : Cl K h H Q QV) (hH : RepH K h H) {l : Addr} (n : H l = none) {ds : List D} {vs : List V} (r : RepVs K H ds vs) (q : Q (.ref l) (up h l (.lst ds))) : QV (.ref l) (upd H l (.lst vs)) :=
  c (.ref l) _ _ _ (Stp.new n) (hH.new n r) rfl q
theorem Cl.tup (c : Cl K h H Q QV) (hH : RepH K h H) {l : Addr} (n : H l = none) {ds : List D} {vs : List V} (r : RepVs K H ds vs) (q : Q (.tup ds) h) : QV (.ref l) (upd H l (.tup vs)) :=
  c (.tup ds) h _ _ (Stp.hide n) (hH.hide n) ⟨l, vs, rfl, .inl (.inl upd_same), RepVs.mono (Stp.mo hH (Stp.hide n)) _ r⟩ q
theorem Cl.write (c : Cl K h H Q QV) (hH : RepH K h H) {l : Addr} {d0 : List D} (e : h l = some (.lst d0)) {ds : List D} {vs : List V} (r : RepVs K H ds vs) {d : D} {v : V} (rv : RepV K H d v) (q : Q d (up h l (.lst ds))) : QV v (upd H l (.lst vs)) :=
  c d _ _ _ (Stp.write e) (hH.write e r) (RepV.mono (Stp.mo hH (Stp.write (u := .lst ds) e)) _ rv) q
end
section
variable {X : Cx}
theorem od_add : OpR X (binaryOp .Add) (lowR X.kw addD) := opR_of fun x y H QV ⟨d, e, h, Q, rx, ry, hH, hr, hc⟩ => by
  cases d <;> cases e <;> try exact hr.elim
  case int.int i j => exact ⟨_, op_add, i, j, rx, ry, hc.int hH hr⟩
  case str.str a b =>
    obtain ⟨rx, ox⟩ := rx
    obtain ⟨ry, oy⟩ := ry
    exact ⟨_, op_add_str, a, b, rx, ry, hr.1, hc.str hH (ox.app oy hr.1) hr.2⟩
  case tup.tup a b =>
    obtain ⟨p, vs, rfl, s1, r1⟩ := rx
    obtain ⟨q, us, rfl, s2, r2⟩ := ry
    have hl : vs.length + us.length ≤ sizeLine := by rw [← r1.length, ← r2.length]; exact hr.1
    have rr : RepVs X.kw H (a ++ b) (vs ++ us) := .of (P2.append r1.pair r2.pair)
    refine ⟨_, op_catA, p, q, vs, us, rfl, rfl, s1, s2, hl, fun z => ?_, fun _ z => ?_, fun _ _ l n => hc.tup hH n rr hr.2⟩
    · subst z
      have e : a = [] := List.eq_nil_of_length_eq_zero r1.length
      subst e
      exact hc.val hH (d := .tup b) ⟨q, us, rfl, s2, r2⟩ hr.2
    · subst z
      have e : b = [] := List.eq_nil_of_length_eq_zero r2.length
      subst e
      have q2 := hr.2
      rw [List.append_nil] at q2
      exact hc.val hH (d := .tup a) ⟨p, vs, rfl, s1, r1⟩ q2
  case ref.ref p q =>
    obtain ⟨a, b, e1, e2, hl, k⟩ := hr
    cases (show x = _ from rx)
    cases (show y = _ from ry)
    obtain ⟨vs, f1, r1⟩ := hH _ _ e1
    obtain ⟨us, f2, r2⟩ := hH _ _ e2
    refine ⟨_, op_cat, p, q, vs, us, rfl, rfl, f1, f2, by rw [← r1.length, ← r2.length]; exact hl, fun l n => ?_⟩
    exact hc.new hH n (.of (P2.append r1.pair r2.pair)) (k l (hH.nofresh n))
theorem od_sub : OpR X (binaryOp .Sub) (lowR X.kw subD) := opR_of fun x y H QV ⟨d, e, h, Q, rx, ry, hH, hr, hc⟩ => by
  cases d <;> cases e <;> try exact hr.elim
  case int.int i j => exact ⟨_, op_sub, i, j, rx, ry, hc.int hH hr⟩
theorem P2.rep {α β : Type} {R : α → β → Prop} {xs : List α} {us : List β} (h : Paired R xs us) : ∀ k : Nat, Paired R (List.replicate k xs).flatten (List.replicate k us).flatten
  | 0 => .nil
  | k + 1 => by rw [List.replicate_succ, List.replicate_succ, List.flatten_cons, List.flatten_cons]; exact P2.append h (P2.rep h k)
theorem od_mul : OpR X (binaryOp .Mult) (lowR X.kw mulD) := opR_of fun x y H QV ⟨d, e, h, Q, rx, ry, hH, hr, hc⟩ => by
  cases d <;> cases e <;> try exact hr.elim
  case int.int i j => exact ⟨_, op_mul, i, j, rx, ry, hr.1, hc.int hH hr.2⟩
  case ref.int p k =>
    obtain ⟨a, e1, hk, hl, q⟩ := hr
    cases (show x = _ from rx)
    cases (show y = _ from ry)
    obtain ⟨vs, f1, r1⟩ := hH _ _ e1
    refine ⟨_, op_rep, p, k, vs, rfl, rfl, f1, hk.1, hk.2, by rw [← r1.length]; exact hl, fun l n => ?_⟩
    exact hc.new hH n (.of (P2.rep r1.pair _)) (q l (hH.nofresh n))
theorem od_fdiv : OpR X (binaryOp .FloorDiv) (lowR X.kw fdivD) := opR_of fun x y H QV ⟨d, e, h, Q, rx, ry, hH, hr, hc⟩ => by
  cases d <;> cases e <;> try exact hr.elim
  case int.int i j => exact ⟨_, op_fdivW, i, j, rx, ry, hr.1, hc.int hH hr.2⟩
theorem od_mod : OpR X (binaryOp .Mod) (lowR X.kw modD) := opR_of fun x y H QV ⟨d, e, h, Q, rx, ry, hH, hr, hc⟩ => by
  cases d <;> cases e <;> try exact hr.elim
  case int.int i j => exact ⟨_, op_mod, i, j, rx, ry, hr.1, hc.int hH hr.2⟩
theorem od_pow : OpR X (binaryOp .Pow) (lowR X.kw powD) := opR_of fun x y H QV ⟨d, e, h, Q, rx, ry, hH, hr, hc⟩ => by
  cases d <;> cases e <;> try exact hr.elim
  case int.int i j => exact ⟨_, op_pow, i, j, rx, ry, hr.1, hc.int hH hr.2⟩
theorem od_shl : OpR X (binaryOp .LShift) (lowR X.kw shlD) := opR_of fun x y H QV ⟨d, e, h, Q, rx, ry, hH, hr, hc⟩ => by
  cases d <;> cases e <;> try exact hr.elim
  case int.int i j => exact ⟨_, op_shl, i, j, rx, ry, hr.1, hc.int hH hr.2⟩
theorem od_shr : OpR X (binaryOp .RShift) (lowR X.kw shrD) := opR_of fun x y H QV ⟨d, e, h, Q, rx, ry, hH, hr, hc⟩ => by
  cases d <;> cases e <;> try exact hr.elim
  case int.int i j => exact ⟨_, op_shr, i, j, rx, ry, hr.1, hc.int hH hr.2⟩
theorem od_and : OpR X (binaryOp .BitAnd) (lowR X.kw andD) := opR_of fun x y H QV ⟨d, e, h, Q, rx, ry, hH, hr, hc⟩ => by
  cases d <;> cases e <;> try exact hr.elim
  case int.int i j => exact ⟨_, op_and, i, j, rx, ry, hc.int hH hr⟩
/-! ### comparisons -/
def eqvO : Option PyData → Option PyData → (Bool → Prop) → Prop
  | some x, some y, k => k (PyData.eqv x y)
  | _, _, _ => False
def eqD : R1 := fun x y h Q => eqvO (view h x) (view h y) fun b => Q (.bool b) h
def neD : R1 := fun x y h Q => eqvO (view h x) (view h y) fun b => Q (.bool (!b)) h
theorem od_eq (hu : X.A.units + 64 < cLine) : OpR X (compareOp .Eq) (lowR X.kw eqD) := opR_of fun x y H QV ⟨d, e, h, Q, rx, ry, hH, hr, hc⟩ => by
  unfold eqD at hr
  cases e1 : view h d with
  | none => rw [e1] at hr; exact hr.elim
  | some p =>
    cases e2 : view h e with
    | none => rw [e1, e2] at hr; exact hr.elim
    | some q =>
      rw [e1, e2] at hr
      obtain ⟨a1, b1⟩ := view_dp hH rx e1
      obtain ⟨a2, b2⟩ := view_dp hH ry e2
      exact ⟨_, op_eqD hu, p, q, a1, a2, b1, b2, hc.bl hH hr⟩
theorem od_ne (hu : X.A.units + 64 < cLine) : OpR X (compareOp .NotEq) (lowR X.kw neD) := opR_of fun x y H QV ⟨d, e, h, Q, rx, ry, hH, hr, hc⟩ => by
  unfold neD at hr
  cases e1 : view h d with
  | none => rw [e1] at hr; exact hr.elim
  | some p =>
    cases e2 : view h e with
    | none => rw [e1, e2] at hr; exact hr.elim
    | some q =>
      rw [e1, e2] at hr
      obtain ⟨a1, b1⟩ := view_dp hH rx e1
      obtain ⟨a2, b2⟩ := view_dp hH ry e2
      exact ⟨_, op_neD hu, p, q, a1, a2, b1, b2, hc.bl hH hr⟩
def ltS (a b : Str) : Bool := decide (a.cps.toList < b.cps.toList)
def ltD : R1 := fun x y h Q => match x, y with
  | .int i, .int j => Q (.bool (decide (i < j))) h
  | .str i, .str j => Q (.bool (ltS i j)) h
  | _, _ => False
def leD : R1 := fun x y h Q => match x, y with
  | .int i, .int j => Q (.bool (decide (i ≤ j))) h
  | .str i, .str j => Q (.bool (!ltS j i)) h
  | _, _ => False
def gtD : R1 := fun x y h Q => match x, y with
  | .int i, .int j => Q (.bool (decide (j < i))) h
  | .str i, .str j => Q (.bool (ltS j i)) h
  | _, _ => False
def geD : R1 := fun x y h Q => match x, y with
  | .int i, .int j => Q (.bool (decide (j ≤ i))) h
  | .str i, .str j => Q (.bool (!ltS i j)) h
  | _, _ => False
theorem od_lt : OpR X (compareOp .Lt) (lowR X.kw ltD) := opR_of fun x y H QV ⟨d, e, h, Q, rx, ry, hH, hr, hc⟩ => by
  cases d <;> cases e <;> try exact hr.elim
  case int.int i j => exact ⟨_, op_lt, i, j, rx, ry, hc.bl hH hr⟩
  case str.str i j => exact ⟨_, op_lt_str, i, j, rx.1, ry.1, hc.bl hH hr⟩
theorem od_le : OpR X (compareOp .LtE) (lowR X.kw leD) := opR_of fun x y H QV ⟨d, e, h, Q, rx, ry, hH, hr, hc⟩ => by
  cases d <;> cases e <;> try exact hr.elim
  case int.int i j => exact ⟨_, op_le, i, j, rx, ry, hc.bl hH hr⟩
  case str.str i j => exact ⟨_, op_le_str, i, j, rx.1, ry.1, hc.bl hH hr⟩
theorem od_gt : OpR X (compareOp .Gt) (lowR X.kw gtD) := opR_of fun x y H QV ⟨d, e, h, Q, rx, ry, hH, hr, hc⟩ => by
  cases d <;> cases e <;> try exact hr.elim
  case int.int i j => exact ⟨_, op_gt, i, j, rx, ry, hc.bl hH hr⟩
  case str.str i j => exact ⟨_, op_gt_str, i, j, rx.1, ry.1, hc.bl hH hr⟩
theorem od_ge : OpR X (compareOp .GtE) (lowR X.kw geD) := opR_of fun x y H QV ⟨d, e, h, Q, rx, ry, hH, hr, hc⟩ => by
  cases d <;> cases e <;> try exact hr.elim
  case int.int i j => exact ⟨_, op_ge, i, j, rx, ry, hc.bl hH hr⟩
  case str.str i j => exact ⟨_, op_ge_str, i, j, rx.1, ry.1, hc.bl hH hr⟩
end
end DL
namespace DL
open PySem PySem.Spec PyProof.Rows L2
/-! ### dicts, on the data level -/
def dget (kvs : Kvs) (k : D) : Option D := (kvs.find? fun p => decide (nk p.1 = nk k)).map (·.2)
def dset (kvs : Kvs) (k v : D) : Kvs := if (dget kvs k).isSome = true then kvs.map (fun p => if nk p.1 = nk k then (p.1, v) else p) else kvs ++ [(k, v)]
/-- all keys are numbers and texts, or all are tuples -/
def fit (kvs : Kvs) (k : D) : Bool := ((scaK k).isSome && kvs.all fun p => (scaK p.1).isSome) || (tupK k && kvs.all fun p => tupK p.1)
def RO {α β : Type} (R : α → β → Prop) : Option α → Option β → Prop
  | none, none => True
  | some a, some b => R a b
  | _, _ => False
theorem RO.isSome {α β : Type} {R : α → β → Prop} : ∀ {x : Option α} {y : Option β}, RO R x y → y.isSome = x.isSome
  | none, none, _ => rfl
  | some _, some _, _ => rfl
theorem RO.some_ {α β : Type} {R : α → β → Prop} : ∀ {x : Option α} {y : Option β} {a : α}, RO R x y → x = some a → ∃ b, y = some b ∧ R a b
  | some _, some b, _, r, e => by cases e; exact ⟨b, rfl, r⟩
/-- the key of a number, a text -/
def kNK : L2.Key → NK
  | .inl i => .num i
  | .inr x => .text x
theorem kNK_inj {a b : L2.Key} (h : kNK a = kNK b) : a = b := by
  cases a <;> cases b <;> (unfold kNK at h; cases h) <;> rfl
theorem scaK_nk {d : D} {k : L2.Key} (h : scaK d = some k) : nk d = some (kNK k) := by
  cases d <;> first | (cases h; done) | (cases h; rfl)
section
variable {K : KW} {H : Hp}
theorem dget_K {kvs : Kvs} {kv : List (L2.Key × V)} {d : D} {k : L2.Key} (r : RepKs K H kvs kv) (e : scaK d = some k) : RO (RepV K H) (dget kvs d) (valV kv k) := by
  induction r with
  | nil => exact True.intro
  | @cons p q ps qs h t ih =>
    have e1 := scaK_nk h.1
    have e2 := scaK_nk e
    unfold dget at ih ⊢
    by_cases z : q.1 = k
    · rw [List.find?_cons_of_pos (by simp [e1, e2, z]), valV_pos z]
      exact h.2.2
    · rw [List.find?_cons_of_neg (by rw [e1, e2]; simp only [Option.some.injEq, decide_eq_true_eq]; exact fun y => z (kNK_inj y)), valV_neg z]
      exact ih
theorem dget_N {kvs : Kvs} {xs : List Ent} {d : D} {k : NK} (r : RepNs K H kvs xs) (e : nk d = some k) : RO (RepV K H) (dget kvs d) (entAt xs k) := by
  induction r with
  | nil => exact True.intro
  | @cons p q ps qs h t ih =>
    unfold dget entAt at ih ⊢
    by_cases z : q.1 = k
    · rw [List.find?_cons_of_pos (by simp [h.1, e, z]), List.find?_cons_of_pos (by simp [z])]
      exact h.2.2
    · rw [List.find?_cons_of_neg (by simp [h.1, e, z]), List.find?_cons_of_neg (by simp [z])]
      exact ih
theorem repl_K {kvs : Kvs} {kv : List (L2.Key × V)} {d e : D} {k : L2.Key} {z : V} (r : RepKs K H kvs kv) (ek : scaK d = some k) (re : RepV K H e z) :
    RepKs K H (kvs.map (fun p => if nk p.1 = nk d then (p.1, e) else p)) (kv.map fun x => if x.1 = k then (x.1, z) else x) := by
  induction r with
  | nil => exact .nil
  | @cons p q ps qs h t ih =>
    rw [List.map_cons, List.map_cons]
    refine .cons ?_ ih
    have e1 := scaK_nk h.1
    have e2 := scaK_nk ek
    by_cases y : q.1 = k
    · rw [if_pos (by rw [e1, e2, y]), if_pos y]; exact ⟨h.1, h.2.1, re⟩
    · rw [if_neg (by rw [e1, e2]; intro w; exact y (kNK_inj (Option.some.inj w))), if_neg y]; exact h
theorem dset_K {kvs : Kvs} {kv : List (L2.Key × V)} {d e : D} {k : L2.Key} {v z : V} (r : RepKs K H kvs kv) (ek : scaK d = some k) (rd : RepV K H d v) (re : RepV K H e z) : RepKs K H (dset kvs d e) (putK kv k z) := by
  have iso := (dget_K r ek).isSome
  unfold dset putK
  rw [valV_any, iso]
  split
  · exact repl_K r ek re
  · exact Paired.snoc r ⟨ek, by rw [← sca_rep rd ek]; exact rd, re⟩
theorem repl_N {kvs : Kvs} {xs : List Ent} {d e : D} {k : NK} {z : V} (r : RepNs K H kvs xs) (ek : nk d = some k) (re : RepV K H e z) :
    RepNs K H (kvs.map (fun p => if nk p.1 = nk d then (p.1, e) else p)) (xs.map fun x => if x.1 = k then (x.1, x.2.1, z) else x) := by
  induction r with
  | nil => exact .nil
  | @cons p q ps qs h t ih =>
    rw [List.map_cons, List.map_cons]
    refine .cons ?_ ih
    by_cases y : q.1 = k
    · rw [if_pos (by rw [h.1, ek, y]), if_pos y]; exact ⟨h.1, h.2.1, re⟩
    · rw [if_neg (by rw [h.1, ek]; intro w; exact y (Option.some.inj w)), if_neg y]; exact h
theorem dset_N {kvs : Kvs} {xs : List Ent} {d e : D} {k : NK} {v z : V} (r : RepNs K H kvs xs) (ek : nk d = some k) (rd : RepV K H d v) (re : RepV K H e z) : RepNs K H (dset kvs d e) (entPut xs k v z) := by
  have iso := (dget_N r ek).isSome
  unfold dset entPut
  rw [iso]
  split
  · exact repl_N r ek re
  · exact Paired.snoc r ⟨ek, rd, re⟩
theorem dset_len (kvs : Kvs) (k v : D) : (dset kvs k v).length ≤ kvs.length + 1 := by
  unfold dset; split
  · rw [List.length_map]; exact Nat.le_succ _
  · rw [List.length_append]; exact Nat.le_refl _
theorem dset_all {kvs : Kvs} {k v : D} {P : D → Bool} (h : kvs.all (fun p => P p.1) = true) (hk : P k = true) : (dset kvs k v).all (fun p => P p.1) = true := by
  unfold dset; split
  · rw [List.all_map]
    rw [List.all_eq_true] at h ⊢
    intro p hp
    show P (if nk p.1 = nk k then (p.1, v) else p).1 = true
    split <;> exact h p hp
  · rw [List.all_append, h]; simp [hk]
theorem upd_id {a : Addr} {o : HO} (e : H a = some o) : upd H a o = H := by
  funext b; unfold upd; split
  · rename_i z; rw [z, e]
  · rfl
/-- values don't change by an object that is not hidden -/
theorem Mo.upd {a : Addr} {o u : HO} (e : H a = some u) (n : hid u = false) : Mo K H (L2.upd H a o) := by
  have t : ∀ b x, hid x = true → H b = some x → L2.upd H a o b = some x := fun b x hx q => by
    rw [upd_ne]; exact q
    intro z; rw [z, e] at q; cases q; rw [n] at hx; cases hx
  refine ⟨fun b xs q => ?_, fun b xs q => ?_⟩
  · rcases q with (q | ⟨x, q⟩) | q
    · exact .inl (.inl (t b _ rfl q))
    · exact .inl (.inr ⟨x, t b _ rfl q⟩)
    · exact .inr q
  · rcases q with ⟨x, q⟩ | q
    · exact .inl ⟨x, t b _ rfl q⟩
    · exact .inr q
theorem RepKs.mono {H' : Hp} (m : Mo K H H') {kvs : Kvs} {kv : List (L2.Key × V)} (r : RepKs K H kvs kv) : RepKs K H' kvs kv := P2.mono (fun _ _ z => ⟨z.1, RepV.mono m _ z.2.1, RepV.mono m _ z.2.2⟩) r
theorem RepNs.mono {H' : Hp} (m : Mo K H H') {kvs : Kvs} {xs : List Ent} (r : RepNs K H kvs xs) : RepNs K H' kvs xs := P2.mono (fun _ _ z => ⟨z.1, RepV.mono m _ z.2.1, RepV.mono m _ z.2.2⟩) r
theorem RepKs.nil_ {kv : List (L2.Key × V)} (r : RepKs K H [] kv) : kv = [] := by cases r; rfl
theorem RepNs.nil_ {xs : List Ent} (r : RepNs K H [] xs) : xs = [] := by cases r; rfl
end
section
variable {X : Cx} {pins : List (Addr × Obj)} {σ : L2.St} {H : Hp} {a : Addr} {kvs : Kvs} {d e : D} {v : V} {u : Value}
/-- the dict as one of numbers and texts -/
structure AsK (X : Cx) (pins : List (Addr × Obj)) (σ : L2.St) (H : Hp) (a : Addr) (kvs : Kvs) where
  kv : List (L2.Key × V)
  rep : RepKs X.kw H kvs kv
  to_ : ∀ s, Inv X pins σ H s → Inv X pins σ (upd H a (.dK kv)) s
  from_ : ∀ s, Inv X pins σ (upd H a (.dK kv)) s → Inv X pins σ H s
  mo : ∀ o, Mo X.kw H (upd H a o)
/-- the dict as one of tuples -/
structure AsN (X : Cx) (pins : List (Addr × Obj)) (σ : L2.St) (H : Hp) (a : Addr) (kvs : Kvs) where
  xs : List Ent
  rep : RepNs X.kw H kvs xs
  dic : NDict X (upd H a (dobj X.w a xs)) a xs
  to_ : ∀ s, Inv X pins σ H s → Inv X pins σ (upd H a (dobj X.w a xs)) s
  from_ : ∀ s, Inv X pins σ (upd H a (dobj X.w a xs)) s → Inv X pins σ H s
  mo : ∀ o, Mo X.kw H (upd H a o)
theorem RepNs.keys (r : RepNs X.kw H kvs xs) (t : ∀ p ∈ kvs, tupK p.1 = true) : ∀ x ∈ xs, (∃ ks, x.1 = .tup ks) ∧ x.1.depth ≤ 8 ∧ KIs X.K H x.1 x.2.1 := by
  induction r with
  | nil => intro x hx; simp at hx
  | @cons p q ps qs h _ ih =>
    intro x hx
    rcases List.mem_cons.mp hx with rfl | hx
    · obtain ⟨ks, e1, e2⟩ := tupK_some (t p (by simp))
      have e3 := h.1
      rw [e1] at e3
      have e4 := Option.some.inj e3
      exact ⟨⟨ks, e4.symm⟩, by rw [← e4]; exact e2, nk_kis (K := X.kw) _ h.2.1 h.1⟩
    · exact ih (fun p hp => t p (by simp [hp])) x hx
theorem low_of {s : Shared} (I : Inv X pins σ H s) {kv : List (L2.Key × V)} (e : H a = some (.dK kv)) : (a == sysModules) = false ∧ kv.length ≤ sizeLine := let ⟨z, b, _⟩ := dk_of I.hok e; ⟨b, z⟩
theorem as_K {s : Shared} (I : Inv X pins σ H s) (r : RepO X.kw H a (.dic kvs)) (h : kvs.all (fun p => (scaK p.1).isSome) = true) : Nonempty (AsK X pins σ H a kvs) := by
  rcases r with ⟨kv, e, r⟩ | ⟨xs, r⟩
  · exact ⟨⟨kv, r, fun s I => by rw [upd_id e]; exact I, fun s I => by rw [upd_id e] at I; exact I, fun o => Mo.upd e rfl⟩⟩
  · cases kvs with
    | nil =>
      have ex := r.rep.nil_
      subst ex
      refine ⟨⟨[], .nil, fun s I => empty_k I r.at_ r.low, fun s I => ?_, fun o => Mo.upd r.at_ rfl⟩⟩
      have J := empty_n I upd_same
      rw [upd_upd] at J
      have z : upd H a (dobj X.w a []) = H := upd_id r.at_
      rw [z] at J; exact J
    | cons p ps =>
      have h1 := r.tup p (by simp)
      have h2 : (scaK p.1).isSome = true := by rw [List.all_cons, Bool.and_eq_true] at h; exact h.1
      cases q : p.1 <;> rw [q] at h1 h2 <;> first | (cases h1; done) | (cases h2; done)
theorem as_N {s : Shared} (I : Inv X pins σ H s) (r : RepO X.kw H a (.dic kvs)) (h : kvs.all (fun p => tupK p.1) = true) : Nonempty (AsN X pins σ H a kvs) := by
  have t : ∀ p ∈ kvs, tupK p.1 = true := fun p hp => (List.all_eq_true.mp h) p hp
  rcases r with ⟨kv, e, r⟩ | ⟨xs, r⟩
  · cases kvs with
    | nil =>
      have ex := r.nil_
      subst ex
      obtain ⟨low, _⟩ := low_of I e
      refine ⟨⟨[], .nil, ⟨upd_same, low, Nat.zero_le _, by simp, by simp⟩, fun s I => empty_n I e, fun s I => ?_, fun o => Mo.upd e rfl⟩⟩
      have J := empty_k I upd_same low
      rw [upd_upd] at J
      have z : upd H a (.dK []) = H := upd_id e
      rw [z] at J; exact J
    | cons p ps =>
      cases r with
      | cons q _ =>
        have h1 := t p (by simp)
        have h2 := q.1
        cases y : p.1 <;> rw [y] at h1 h2 <;> first | (cases h1; done) | (cases h2; done)
  · have z : upd H a (dobj X.w a xs) = H := upd_id r.at_
    exact ⟨⟨xs, r.rep, ⟨upd_same, r.low, by rw [← r.rep.length]; exact r.len, by rw [z]; exact r.rep.keys t, r.nd⟩, fun s I => by rw [z]; exact I, fun s I => by rw [z] at I; exact I, fun o => Mo.upd r.at_ rfl⟩⟩
theorem fit_or (h : fit kvs d = true) : (∃ k, scaK d = some k ∧ kvs.all (fun p => (scaK p.1).isSome) = true) ∨ (∃ k, nk d = some k ∧ tupK d = true ∧ kvs.all (fun p => tupK p.1) = true) := by
  unfold fit at h
  rw [Bool.or_eq_true, Bool.and_eq_true, Bool.and_eq_true] at h
  rcases h with h | h
  · obtain ⟨k, e⟩ := Option.isSome_iff_exists.mp h.1
    exact .inl ⟨k, e, h.2⟩
  · obtain ⟨ks, e, _⟩ := tupK_some h.1
    exact .inr ⟨_, e, h.1, h.2⟩
theorem nkey_of {k : NK} {H : Hp} (t : tupK d = true) (e : nk d = some k) (r : RepV X.kw H d v) : NKey X H k v := by
  obtain ⟨ks, e2, dp⟩ := tupK_some t
  rw [e] at e2
  have e3 := Option.some.inj e2
  exact ⟨⟨ks, e3⟩, by rw [e3]; exact dp, nk_kis (K := X.kw) _ r e⟩
/-! the operations -/
def VO (K : KW) (H : Hp) (e : D) (w : Value) : Prop := ∃ z, RelV z w ∧ RepV K H e z
variable {s : Shared} {E : Value → Shared → Prop}
theorem RO.getD {α β : Type} {R : α → β → Prop} {x : Option α} {y : Option β} {a : α} {b : β} (r : RO R x y) (h : R a b) : R (x.getD a) (y.getD b) := by
  cases x <;> cases y <;> first | exact h | exact r | exact (show False from r).elim
theorem mo_back {H H' : Hp} (m : Mo X.kw H H') {d : D} {v : V} (r : RepV X.kw H d v) : RepV X.kw H' d v := RepV.mono m _ r
theorem dd_getItem {Q : Value → Shared → Prop} {f : D} (hu : X.A.units + 64 < cLine) (I : Inv X pins σ H s) (ro : RepO X.kw H a (.dic kvs)) (rd : RepV X.kw H d v) (ru : RelV v u) (hf : fit kvs d = true) (hg : dget kvs d = some f)
    (h : ∀ w s', Inv X pins σ H s' → VO X.kw H f w → Q w s') : wpAny (model X.prog X.w) X.A (getItem (.ref a) u) Q E s := by
  rcases fit_or hf with ⟨k, ek, al⟩ | ⟨k, ek, tk, al⟩
  · obtain ⟨A⟩ := as_K I ro al
    obtain ⟨z, hz, rz⟩ := (dget_K A.rep ek).some_ hg
    cases sca_rep rd ek
    refine d_getItem (by omega) (A.to_ s I) (.inl ⟨A.kv, k, .inl upd_same, rfl, hz.symm⟩) ru fun w' s' I' rw' => h w' s' (A.from_ s' I') ⟨z, rw', rz⟩
  · obtain ⟨A⟩ := as_N I ro al
    obtain ⟨z, hz, rz⟩ := (dget_N A.rep ek).some_ hg
    exact n_getItem hu (A.to_ s I) A.dic (nkey_of tk ek (mo_back (A.mo _) rd)) ru hz fun w' s' I' rw' => h w' s' (A.from_ s' I') ⟨z, rw', rz⟩
theorem dd_in {Q : Value → Shared → Prop} (hu : X.A.units + 64 < cLine) (I : Inv X pins σ H s) (ro : RepO X.kw H a (.dic kvs)) (rd : RepV X.kw H d v) (ru : RelV v u) (hf : fit kvs d = true)
    (h : ∀ s', Inv X pins σ H s' → Q (.bool (dget kvs d).isSome) s') : wpAny (model X.prog X.w) X.A (compareOp .In u (.ref a)) Q E s := by
  rcases fit_or hf with ⟨k, ek, al⟩ | ⟨k, ek, tk, al⟩
  · obtain ⟨A⟩ := as_K I ro al
    cases sca_rep rd ek
    refine d_in (o := valV A.kv k) (by omega) (A.to_ s I) (.inl ⟨A.kv, k, .inl upd_same, rfl, rfl⟩) ru fun s' I' => ?_
    rw [(dget_K A.rep ek).isSome]; exact h s' (A.from_ s' I')
  · obtain ⟨A⟩ := as_N I ro al
    refine n_in hu (A.to_ s I) A.dic (nkey_of tk ek (mo_back (A.mo _) rd)) ru fun s' I' => ?_
    rw [(dget_N A.rep ek).isSome]; exact h s' (A.from_ s' I')
theorem dd_notIn {Q : Value → Shared → Prop} (hu : X.A.units + 64 < cLine) (I : Inv X pins σ H s) (ro : RepO X.kw H a (.dic kvs)) (rd : RepV X.kw H d v) (ru : RelV v u) (hf : fit kvs d = true)
    (h : ∀ s', Inv X pins σ H s' → Q (.bool (!(dget kvs d).isSome)) s') : wpAny (model X.prog X.w) X.A (compareOp .NotIn u (.ref a)) Q E s := by
  rcases fit_or hf with ⟨k, ek, al⟩ | ⟨k, ek, tk, al⟩
  · obtain ⟨A⟩ := as_K I ro al
    cases sca_rep rd ek
    refine d_notIn (o := valV A.kv k) (by omega) (A.to_ s I) (.inl ⟨A.kv, k, .inl upd_same, rfl, rfl⟩) ru fun s' I' => ?_
    rw [(dget_K A.rep ek).isSome]; exact h s' (A.from_ s' I')
  · obtain ⟨A⟩ := as_N I ro al
    refine n_notIn hu (A.to_ s I) A.dic (nkey_of tk ek (mo_back (A.mo _) rd)) ru fun s' I' => ?_
    rw [(dget_N A.rep ek).isSome]; exact h s' (A.from_ s' I')
theorem dd_setItem {Q : Unit → Shared → Prop} {z : V} {uz : Value} (hu : X.A.units + 64 < cLine) (I : Inv X pins σ H s) (ro : RepO X.kw H a (.dic kvs)) (rd : RepV X.kw H d v) (ru : RelV v u) (re : RepV X.kw H e z) (rz : RelV z uz) (hf : fit kvs d = true)
    (hl : kvs.length < sizeLine) (h : ∀ s' o, Inv X pins σ (upd H a o) s' → RepO X.kw (upd H a o) a (.dic (dset kvs d e)) → Q () s') : wpAny (model X.prog X.w) X.A (setItem (.ref a) u uz) Q E s := by
  rcases fit_or hf with ⟨k, ek, al⟩ | ⟨k, ek, tk, al⟩
  · obtain ⟨A⟩ := as_K I ro al
    cases sca_rep rd ek
    have rs := dset_K A.rep ek rd re
    refine d_setItem (H' := upd H a (.dK (putK A.kv k z))) (by omega) (A.to_ s I) (.inl ⟨A.kv, k, upd_same, rfl, by rw [← A.rep.length]; exact hl, by rw [upd_upd]⟩) ru rz fun s' I' => ?_
    exact h s' _ I' (.inl ⟨_, upd_same, rs.mono (A.mo _)⟩)
  · obtain ⟨A⟩ := as_N I ro al
    have rs := dset_N A.rep ek rd re
    have nk' := nkey_of tk ek (mo_back (A.mo (dobj X.w a A.xs)) rd)
    refine n_setItem hu (A.to_ s I) A.dic nk' ru rz fun s' I' => ?_
    rw [upd_upd] at I'
    refine h s' _ I' (.inr ⟨_, ⟨upd_same, rs.mono (A.mo _), ?_, entPut_nd _ _ _ A.dic.nd, ?_, A.dic.low⟩⟩)
    · exact fun p hp => List.all_eq_true.mp (dset_all al tk) p hp
    · exact Nat.le_trans (dset_len _ _ _) hl
theorem dd_get2 {Q : Value → Shared → Prop} {z : V} {uz : Value} (hu : X.A.units + 64 < cLine) (I : Inv X pins σ H s) (ro : RepO X.kw H a (.dic kvs)) (rd : RepV X.kw H d v) (ru : RelV v u) (re : RepV X.kw H e z) (rz : RelV z uz) (hf : fit kvs d = true)
    (h : ∀ w s', Inv X pins σ H s' → VO X.kw H ((dget kvs d).getD e) w → Q w s') : wpAny (model X.prog X.w) X.A (call (.builtin "dict.get") [.ref a, u, uz]) Q E s := by
  rcases fit_or hf with ⟨k, ek, al⟩ | ⟨k, ek, tk, al⟩
  · obtain ⟨A⟩ := as_K I ro al
    cases sca_rep rd ek
    exact d_get2 (o := valV A.kv k) (by omega) (A.to_ s I) (.inl ⟨A.kv, k, .inl upd_same, rfl, rfl⟩) ru rz fun w' s' I' rw' => h w' s' (A.from_ s' I') ⟨_, rw', (dget_K A.rep ek).getD re⟩
  · obtain ⟨A⟩ := as_N I ro al
    exact n_get hu (A.to_ s I) A.dic (nkey_of tk ek (mo_back (A.mo _) rd)) ru rz fun w' s' I' rw' => h w' s' (A.from_ s' I') ⟨_, rw', (dget_N A.rep ek).getD re⟩
theorem dd_get1 {Q : Value → Shared → Prop} (hu : X.A.units + 64 < cLine) (I : Inv X pins σ H s) (ro : RepO X.kw H a (.dic kvs)) (rd : RepV X.kw H d v) (ru : RelV v u) (hf : fit kvs d = true)
    (h : ∀ w s', Inv X pins σ H s' → VO X.kw H ((dget kvs d).getD .none) w → Q w s') : wpAny (model X.prog X.w) X.A (call (.builtin "dict.get") [.ref a, u]) Q E s := by
  rcases fit_or hf with ⟨k, ek, al⟩ | ⟨k, ek, tk, al⟩
  · obtain ⟨A⟩ := as_K I ro al
    cases sca_rep rd ek
    exact d_get1 (o := valV A.kv k) (by omega) (A.to_ s I) (.inl ⟨A.kv, k, .inl upd_same, rfl, rfl⟩) ru fun w' s' I' rw' => h w' s' (A.from_ s' I') ⟨_, rw', (dget_K A.rep ek).getD (a := D.none) (b := V.non) (show V.non = V.non from rfl)⟩
  · obtain ⟨A⟩ := as_N I ro al
    exact n_get1 hu (A.to_ s I) A.dic (nkey_of tk ek (mo_back (A.mo _) rd)) ru fun w' s' I' rw' => h w' s' (A.from_ s' I') ⟨_, rw', (dget_N A.rep ek).getD (a := D.none) (b := V.non) (show V.non = V.non from rfl)⟩
/-- that a dict stands there -/
theorem dic_type (I : Inv X pins σ H s) (ro : RepO X.kw H a (.dic kvs)) : s.TypeIs (.ref a) "dict" := by
  rcases ro with ⟨kv, e, _⟩ | ⟨xs, r⟩
  · obtain ⟨_, _, vs, _, dd⟩ := dk_of I.hok e
    exact dd.typeIs
  · obtain ⟨⟨o, es, ep, e, c, _⟩, _⟩ := (show ObjOk X.prog X.w H s.heap a (dobj X.w a xs) from I.hok a _ r.at_)
    exact ⟨o, e, c.1⟩
/-! deep: in a tuple -/
def rInT (K : PySem.W.Frag) (neg : Bool) : R2 := fun x y H Q => ∃ d ds, Dp K H x d ∧ Dp K H y (.tuple ds) ∧ SeqAt.shaped d = true ∧ SeqAt.shaped (.tuple ds) = true ∧ Q (.bl (if neg = true then !(ds.any fun z => PyData.eqv z d) else ds.any fun z => PyData.eqv z d)) H
theorem op_inT (hu : X.A.units + 65 < cLine) : OpR X (compareOp .In) (rInT X.K false) := by
  intro pins s σ H x y v u Q I rx ry ⟨d, ds, hd, he, sd, se, q⟩
  have q : Q (.bl (ds.any fun z => PyData.eqv z d)) H := q
  obtain ⟨_, r1⟩ := Dp.reads I d x v hd rx
  obtain ⟨_, r2⟩ := Dp.reads I (.tuple ds) y u he ry
  exact SeqAt.in_tuple_reads r2 r1 (SeqAt.canLay_of_shaped se) (SeqAt.canLay_of_shaped sd) (room_in_shaped sd hu) ⟨.bl _, H, I, rfl, q⟩
theorem op_notInT (hu : X.A.units + 65 < cLine) : OpR X (compareOp .NotIn) (rInT X.K true) := by
  intro pins s σ H x y v u Q I rx ry ⟨d, ds, hd, he, sd, se, q⟩
  have q : Q (.bl (!ds.any fun z => PyData.eqv z d)) H := q
  obtain ⟨_, r1⟩ := Dp.reads I d x v hd rx
  obtain ⟨_, r2⟩ := Dp.reads I (.tuple ds) y u he ry
  exact SeqAt.notIn_tuple_reads r2 r1 (SeqAt.canLay_of_shaped se) (SeqAt.canLay_of_shaped sd) (room_in_shaped sd hu) ⟨.bl _, H, I, rfl, q⟩
end
end DL
namespace DL
open PySem PySem.Spec PyProof.Rows L2
/-- the items of what stands in a row -/
def seqO : Option MO → Option (List D)
  | some (.lst ds) => some ds
  | _ => none
def seqOf (h : MH) : D → Option (List D)
  | .tup ds => some ds
  | .rol ds => some ds
  | .ref a => seqO (h a)
  | .none => none
  | .bool _ => none
  | .int _ => none
  | .str _ => none
  | .ty _ => none
theorem seq_rep {K : KW} {h : MH} {H : Hp} (hH : RepH K h H) : ∀ {d : D} {v : V} {ds : List D}, RepV K H d v → seqOf h d = some ds → ∃ a vs, v = .ref a ∧ RepVs K H ds vs ∧ (SqL K.F H a vs ∨ SqT K.F H a vs)
  | .tup _, _, _, r, e => by
    obtain ⟨a, vs, ev, s, q⟩ := r
    cases e
    exact ⟨a, vs, ev, q, .inr s⟩
  | .rol _, _, _, r, e => by
    obtain ⟨a, vs, ev, s, q⟩ := r
    cases e
    exact ⟨a, vs, ev, q, .inl s.sq⟩
  | .none, _, _, _, e => by cases e
  | .bool _, _, _, _, e => by cases e
  | .int _, _, _, _, e => by cases e
  | .str _, _, _, _, e => by cases e
  | .ty _, _, _, _, e => by cases e
  | .ref a, v, ds, r, e => by
    cases (show v = .ref a from r)
    have e : seqO (h a) = some ds := e
    cases q : h a with
    | none => rw [q] at e; cases e
    | some o =>
      cases o with
      | lst ds' =>
        rw [q] at e
        cases e
        obtain ⟨vs, eH, rv⟩ := hH a _ q
        exact ⟨a, vs, rfl, rv, .inl (SqL.of eH)⟩
      | dic _ => rw [q] at e; cases e
      | ins _ _ => rw [q] at e; cases e
/-! ### in -/
def eqF (x y : D) : Bool := PyData.eqv (pd x) (pd y)
def inS (a z : Str) : Bool := !(Builtin.Str.occurrences z a 0 z.length 1).isEmpty
theorem inS_one (c : Nat) (z : Str) : inS ⟨#[c]⟩ z = decide (c ∈ z.cps.toList) := PySem.StrLaws.found_one z c
def inStr (x : D) (z : Str) (k : Bool → Prop) : Prop := match x with
  | .str a => k (inS a z)
  | _ => False
def inSeq (x : D) (k : Bool → Prop) (ds : List D) : Prop := pure? 60 x = true ∧ pures? 60 ds = true ∧ k (ds.any fun z => eqF z x)
def inDic (kvs : Kvs) (x : D) (k : Bool → Prop) : Prop := fit kvs x = true ∧ k (dget kvs x).isSome
def inO (x : D) (k : Bool → Prop) : Option MO → Prop
  | some (.lst ds) => inSeq x k ds
  | some (.dic kvs) => inDic kvs x k
  | _ => False
def inAny (x y : D) (h : MH) (k : Bool → Prop) : Prop := match y with
  | .str z => inStr x z k
  | .ref a => inO x k (h a)
  | .tup ds => inSeq x k ds
  | .rol ds => inSeq x k ds
  | _ => False
def inD : R1 := fun x y h Q => inAny x y h fun b => Q (.bool b) h
def ninD : R1 := fun x y h Q => inAny x y h fun b => Q (.bool (!b)) h
theorem any_pds (x : D) : ∀ ds : List D, ((pds ds).any fun z => PyData.eqv z (pd x)) = ds.any fun z => eqF z x
  | [] => by simp [pds]
  | d :: ds => by rw [pds, List.any_cons, List.any_cons, any_pds x ds]; rfl
section
variable {K : KW} {h : MH} {H : Hp}
theorem dp_of {x : D} {v : V} (r : RepV K H x v) (p : pure? 60 x = true) : Dp K.F H v (pd x) ∧ SeqAt.shaped (pd x) = true := viewP_dp r (by unfold viewP; rw [if_pos p])
theorem dps_of {ds : List D} {vs : List V} (r : RepVs K H ds vs) (p : pures? 60 ds = true) : DpAll K.F H vs (pds ds) ∧ SeqAt.shaped (.list (pds ds)) = true ∧ SeqAt.shaped (.tuple (pds ds)) = true := by
  obtain ⟨a, b⟩ := pds_dp 60 ds vs p r
  have := pds_depth 60 ds p
  refine ⟨a, ?_, ?_⟩
  · unfold SeqAt.shaped
    rw [decide_eq_true (show PyData.depth (.list (pds ds)) ≤ 64 by simp only [PyData.depth]; omega)]
    simp only [PyData.canLay0, b]; rfl
  · unfold SeqAt.shaped
    rw [decide_eq_true (show PyData.depth (.tuple (pds ds)) ≤ 64 by simp only [PyData.depth]; omega)]
    simp only [PyData.canLay0, b]; rfl
end
section
variable {X : Cx}
theorem od_in (hu : X.A.units + 65 < cLine) : OpR X (compareOp .In) (lowR X.kw inD) := by
  intro pins s σ H x y v u QV I rv ru ⟨d, e, h, Q, rx, ry, hH, hr, hc⟩
  have hr : inAny d e h fun b => Q (.bool b) h := hr
  have lst : ∀ {a : Addr} {vs : List V} {ds : List D}, y = .ref a → SqL X.K H a vs → RepVs X.kw H ds vs → inSeq d (fun b => Q (.bool b) h) ds → wpAny (model X.prog X.w) X.A (compareOp .In v u) (EP X pins σ QV) X.xe s := by
    rintro a vs ds rfl sq rs ⟨p1, p2, q⟩
    obtain ⟨a1, b1⟩ := dp_of rx p1
    obtain ⟨a2, b2, _⟩ := dps_of rs p2
    refine op_inD hu pins s σ H x _ v u QV I rv ru ⟨pd d, pds ds, a1, .lst sq a2, b1, b2, ?_⟩
    rw [any_pds]; exact hc.bl hH q
  cases e with
  | str z =>
    cases d <;> first | (exact hr.elim) | skip
    exact op_in_str pins s σ H x y v u QV I rv ru ⟨_, _, rx.1, ry.1, hc.bl hH hr⟩
  | tup ds =>
    obtain ⟨a, vs, rfl, sq, rs⟩ := ry
    obtain ⟨p1, p2, q⟩ := (show inSeq d (fun b => Q (.bool b) h) ds from hr)
    obtain ⟨a1, b1⟩ := dp_of rx p1
    obtain ⟨a2, _, b2⟩ := dps_of rs p2
    refine op_inT hu pins s σ H x _ v u QV I rv ru ⟨pd d, pds ds, a1, .tup sq a2, b1, b2, ?_⟩
    simp only [Bool.false_eq_true, if_false, if_true]
    rw [any_pds]; exact hc.bl hH q
  | rol ds =>
    obtain ⟨a, vs, ey, sq, rs⟩ := ry
    exact lst ey sq.sq rs hr
  | ref a =>
    have ey : y = .ref a := ry
    have hr : inO d (fun b => Q (.bool b) h) (h a) := hr
    cases q : h a with
    | none => rw [q] at hr; exact hr.elim
    | some o =>
      rw [q] at hr
      cases o with
      | lst ds =>
        obtain ⟨vs, eH, rs⟩ := hH a _ q
        exact lst ey (SqL.of eH) rs hr
      | dic kvs =>
        subst ey
        cases ru
        exact dd_in (by omega) I (hH a _ q) rx rv hr.1 fun s' I' => ⟨.bl _, H, I', rfl, hc.bl hH hr.2⟩
      | ins _ _ => exact hr.elim
  | _ => exact hr.elim
theorem od_notIn (hu : X.A.units + 65 < cLine) : OpR X (compareOp .NotIn) (lowR X.kw ninD) := by
  intro pins s σ H x y v u QV I rv ru ⟨d, e, h, Q, rx, ry, hH, hr, hc⟩
  have hr : inAny d e h fun b => Q (.bool (!b)) h := hr
  have lst : ∀ {a : Addr} {vs : List V} {ds : List D}, y = .ref a → SqL X.K H a vs → RepVs X.kw H ds vs → inSeq d (fun b => Q (.bool (!b)) h) ds → wpAny (model X.prog X.w) X.A (compareOp .NotIn v u) (EP X pins σ QV) X.xe s := by
    rintro a vs ds rfl sq rs ⟨p1, p2, q⟩
    obtain ⟨a1, b1⟩ := dp_of rx p1
    obtain ⟨a2, b2, _⟩ := dps_of rs p2
    refine op_notInD hu pins s σ H x _ v u QV I rv ru ⟨pd d, pds ds, a1, .lst sq a2, b1, b2, ?_⟩
    rw [any_pds]; exact hc.bl hH q
  cases e with
  | str z =>
    cases d <;> first | (exact hr.elim) | skip
    exact op_notIn_str pins s σ H x y v u QV I rv ru ⟨_, _, rx.1, ry.1, hc.bl hH hr⟩
  | tup ds =>
    obtain ⟨a, vs, rfl, sq, rs⟩ := ry
    obtain ⟨p1, p2, q⟩ := (show inSeq d (fun b => Q (.bool (!b)) h) ds from hr)
    obtain ⟨a1, b1⟩ := dp_of rx p1
    obtain ⟨a2, _, b2⟩ := dps_of rs p2
    refine op_notInT hu pins s σ H x _ v u QV I rv ru ⟨pd d, pds ds, a1, .tup sq a2, b1, b2, ?_⟩
    simp only [Bool.false_eq_true, if_false, if_true]
    rw [any_pds]; exact hc.bl hH q
  | rol ds =>
    obtain ⟨a, vs, ey, sq, rs⟩ := ry
    exact lst ey sq.sq rs hr
  | ref a =>
    have ey : y = .ref a := ry
    have hr : inO d (fun b => Q (.bool (!b)) h) (h a) := hr
    cases q : h a with
    | none => rw [q] at hr; exact hr.elim
    | some o =>
      rw [q] at hr
      cases o with
      | lst ds =>
        obtain ⟨vs, eH, rs⟩ := hH a _ q
        exact lst ey (SqL.of eH) rs hr
      | dic kvs =>
        subst ey
        cases ru
        exact dd_notIn (by omega) I (hH a _ q) rx rv hr.1 fun s' I' => ⟨.bl _, H, I', rfl, hc.bl hH hr.2⟩
      | ins _ _ => exact hr.elim
  | _ => exact hr.elim
/-! ### is None -/
def isNone : D → Bool
  | .none => true
  | _ => false
theorem none_rep {K : KW} {H : Hp} {d : D} {v : V} (r : RepV K H d v) : decide (v = .non) = isNone d := by
  cases d with
  | none => cases (show v = _ from r); rfl
  | bool _ => cases (show v = _ from r); rfl
  | int _ => cases (show v = _ from r); rfl
  | ref _ => cases (show v = _ from r); rfl
  | ty _ => cases (show v = _ from r); rfl
  | str _ => obtain ⟨rfl, _⟩ := r; rfl
  | tup _ => obtain ⟨a, vs, rfl, _⟩ := r; rfl
  | rol _ => obtain ⟨a, vs, rfl, _⟩ := r; rfl
def isB (x : D) (b : Bool) (h : MH) (Q : KD) : Prop := match x with
  | .bool a => Q (.bool (decide (a = b))) h
  | _ => False
def isD : R1 := fun x y h Q => match y with
  | .none => Q (.bool (isNone x)) h
  | .bool b => isB x b h Q
  | _ => False
def nisD : R1 := fun x y h Q => match y with
  | .none => Q (.bool (!isNone x)) h
  | _ => False
theorem od_is : OpR X (compareOp .Is) (lowR X.kw isD) := opR_of fun x y H QV ⟨d, e, h, Q, rx, ry, hH, hr, hc⟩ => by
  cases e <;> try exact hr.elim
  · cases (show y = _ from ry)
    refine ⟨_, op_isN, rfl, ?_⟩
    rw [none_rep rx]
    exact hc.bl hH hr
  · cases (show y = _ from ry)
    cases d <;> try exact hr.elim
    cases (show x = _ from rx)
    exact ⟨_, op_isBl, _, _, rfl, rfl, hc.bl hH hr⟩
theorem od_isnot : OpR X (compareOp .IsNot) (lowR X.kw nisD) := opR_of fun x y H QV ⟨d, e, h, Q, rx, ry, hH, hr, hc⟩ => by
  cases e <;> try exact hr.elim
  cases (show y = _ from ry)
  refine ⟨_, op_notN, rfl, ?_⟩
  rw [none_rep rx]
  exact hc.bl hH hr
end
/-! ### subscripts -/
def atD (h : MH) (i : Int) (Q : KD) : Option (List D) → Prop
  | some ds => match atI ds i with
    | some d => Q d h
    | none => False
  | none => False
def atS (z : Str) (i : Int) (h : MH) (Q : KD) : Prop := match atI z.cps.toList i with
  | some c => Q (.str ⟨#[c]⟩) h
  | none => False
def dgetK (h : MH) (Q : KD) : Option D → Prop
  | some v => Q v h
  | none => False
def ixDic (kvs : Kvs) (y : D) (h : MH) (Q : KD) : Prop := fit kvs y = true ∧ dgetK h Q (dget kvs y)
def ixSeq (ds : List D) (y : D) (h : MH) (Q : KD) : Prop := match y with
  | .int i => atD h i Q (some ds)
  | _ => False
def ixStr (z : Str) (y : D) (h : MH) (Q : KD) : Prop := match y with
  | .int i => atS z i h Q
  | _ => False
def ixO (y : D) (h : MH) (Q : KD) : Option MO → Prop
  | some (.lst ds) => ixSeq ds y h Q
  | some (.dic kvs) => ixDic kvs y h Q
  | _ => False
def ixD : R1 := fun x y h Q => match x with
  | .str z => ixStr z y h Q
  | .tup ds => ixSeq ds y h Q
  | .rol ds => ixSeq ds y h Q
  | .ref a => ixO y h Q (h a)
  | _ => False
theorem atI_rep {α β : Type} {R : α → β → Prop} {xs : List α} {ys : List β} (p : Paired R xs ys) {i : Int} {x : α} (e : atI xs i = some x) : ∃ y, atI ys i = some y ∧ R x y := by
  unfold atI at e ⊢
  rw [← p.length]
  cases q : ixN xs.length i with
  | none => rw [q] at e; cases e
  | some j =>
    rw [q] at e
    exact P2.get p e
section
variable {X : Cx}
theorem ixR_of {r' : R2} (h : ∀ x y H Q, r' x y H Q → ∃ r, IxR X r ∧ r x y H Q) : IxR X r' := fun value slice pins s σ H x y v u Q I rx ry hr hs =>
  let ⟨r, ho, hq⟩ := h x y H Q hr
  ho value slice pins s σ H x y v u Q I rx ry hq hs
theorem xd_ix (hu : X.A.units + 64 < cLine) : IxR X (lowR X.kw ixD) := by
  intro value slice pins s σ H x y v u QV I rv ru ⟨d, e, h, Q, rx, ry, hH, hr, hc⟩ hs
  have sq : ∀ {a : Addr} {vs : List V} {ds : List D}, x = .ref a → (SqL X.K H a vs ∨ SqT X.K H a vs) → RepVs X.kw H ds vs → ixSeq ds e h Q → wpAny (model X.prog X.w) X.A (subscriptTail value slice v u) (EP X pins σ QV) X.xe s := by
    rintro a vs ds rfl hq rs hr
    cases e <;> first | (exact hr.elim) | skip
    rename_i i _
    cases (show y = _ from ry)
    have hr : atD h i Q (some ds) := hr
    unfold atD at hr
    simp only at hr
    cases e : atI ds i with
    | none => rw [e] at hr; exact hr.elim
    | some z =>
      rw [e] at hr
      obtain ⟨w, hw, rw'⟩ := atI_rep rs.pair e
      rcases hq with hq | hq
      · exact ix_list value slice pins s σ H _ _ v u QV I rv ru ⟨a, vs, i, w, rfl, rfl, hq, hw, hc.val hH rw' hr⟩ hs
      · exact ix_tup value slice pins s σ H _ _ v u QV I rv ru ⟨a, vs, i, w, rfl, rfl, hq, hw, hc.val hH rw' hr⟩ hs
  cases d with
  | str z =>
    obtain ⟨rfl, ok⟩ := rx
    have hr : ixStr z e h Q := hr
    cases e <;> first | (exact hr.elim) | skip
    rename_i i _
    cases (show y = _ from ry)
    have hr : atS z i h Q := hr
    unfold atS at hr
    cases e : atI z.cps.toList i with
    | none => rw [e] at hr; exact hr.elim
    | some c =>
      rw [e] at hr
      exact ix_str value slice pins s σ H _ _ v u QV I rv ru ⟨z, i, c, rfl, rfl, ok.1, e, hc.str hH (ok.one e) hr⟩ hs
  | tup ds => obtain ⟨a, vs, ex, st, rs⟩ := rx; exact sq ex (.inr st) rs hr
  | rol ds => obtain ⟨a, vs, ex, st, rs⟩ := rx; exact sq ex (.inl st.sq) rs hr
  | ref a =>
    have ex : x = .ref a := rx
    have hr : ixO e h Q (h a) := hr
    cases q : h a with
    | none => rw [q] at hr; exact hr.elim
    | some o =>
      rw [q] at hr
      cases o with
      | lst ds =>
        obtain ⟨vs, eH, rs⟩ := hH a _ q
        exact sq ex (.inl (SqL.of eH)) rs hr
      | dic kvs =>
        subst ex
        cases rv
        obtain ⟨ft, hr⟩ := (show ixDic kvs e h Q from hr)
        cases g : dget kvs e with
        | none => rw [g] at hr; exact hr.elim
        | some f =>
          rw [g] at hr
          exact tail_any (dic_type I (hH a _ q)) PySem.F.slot_dict_getitem.lookup (dd_getItem hu I (hH a _ q) ry ru ft g fun w' s' I' ⟨z, rz, rf⟩ => ⟨z, H, I', rz, hc.val hH rf hr⟩) hs
      | ins _ _ => exact hr.elim
  | _ => exact hr.elim
theorem de_ix (hu : X.A.units + 64 < cLine) {a b : Expr} {ta tb : E1} {pos : Pos} (ha : DE X a ta) (hb : DE X b tb) (hs : PlainIx b) : DE X (.Subscript a b pos) (dOp ixD ta tb) := weakE (pe_ix (xd_ix hu) ha hb hs) fun _ _ _ h => low_op h
/-! ### slices -/
abbrev O1 := Sl → MH → (Option Int → MH → Prop) → Prop
def ClO (K : KW) (h : MH) (H : Hp) (Q : Option Int → MH → Prop) (QV : Option Int → Hp → Prop) : Prop := ∀ b h' H', Stp h H h' H' → RepH K h' H' → Q b h' → QV b H'
def lowO (K : KW) (t : O1) : TO := fun σV H QV => ∃ σ h Q, RepE K H σ σV ∧ RepH K h H ∧ t σ h Q ∧ ClO K h H Q QV
abbrev DO (X : Cx) (e : Option Expr) (t : O1) : Prop := PO X e (lowO X.kw t)
def dNoPart : O1 := fun _ h Q => Q none h
def dPart (t : E1) : O1 := fun σ h Q => t σ h fun x h1 => match x with | .int i => Q (some i) h1 | _ => False
theorem weakO {e : Option Expr} {t t' : TO} (p : PO X e t) (w : ∀ σ H Q, t' σ H Q → t σ H Q) : PO X e t' := ⟨fun pins s σ H Q I h => p.run pins s σ H Q I (w σ H Q h)⟩
theorem do_none : DO X none dNoPart := weakO po_none fun σV H QV ⟨σ, h, Q, hE, hH, ht, hc⟩ => hc none h H Stp.refl hH ht
theorem do_some {e : Expr} {t : E1} (p : DE X e t) : DO X (some e) (dPart t) := weakO (po_some p) fun σV H QV ⟨σ, h, Q, hE, hH, ht, hc⟩ =>
  ⟨σ, h, _, hE, hH, ht, fun d h' v H' s' r' rv q => by
    cases d with
    | int i => exact ⟨i, rv, hc (some i) h' H' s' r' q⟩
    | _ => exact q.elim⟩
def cutD (ds : List D) (lo hi : Option Int) : List D := (ds.drop (HT.sIx ds.length 0 lo)).take (HT.sIx ds.length ds.length hi - HT.sIx ds.length 0 lo)
def slL (h : MH) (lo hi : Option Int) (Q : KD) : Option MO → Prop
  | some (.lst ds) => ∀ l, h l = none → Q (.ref l) (up h l (.lst (cutD ds lo hi)))
  | _ => False
def slD (x : D) (lo hi : Option Int) (h : MH) (Q : KD) : Prop := match x with
  | .str z => Q (.str (cutS z lo hi)) h
  | .tup ds => Q (.tup (cutD ds lo hi)) h
  | .rol ds => ∀ l, h l = none → Q (.ref l) (up h l (.lst (cutD ds lo hi)))
  | .ref a => slL h lo hi Q (h a)
  | _ => False
def dSl (t : E1) (tl tu : O1) : E1 := fun σ h Q => t σ h fun x h1 => tl σ h1 fun lo h2 => tu σ h2 fun hi h3 => slD x lo hi h3 Q
def lowSl (K : KW) (r : D → Option Int → Option Int → MH → KD → Prop) : V → Option Int → Option Int → Hp → VK → Prop := fun x lo hi H QV => ∃ d h Q, RepV K H d x ∧ RepH K h H ∧ r d lo hi h Q ∧ Cl K h H Q QV
theorem slR_of {r' : V → Option Int → Option Int → Hp → VK → Prop} (h : ∀ x lo hi H Q, r' x lo hi H Q → ∃ r, SlR X r ∧ r x lo hi H Q) : SlR X r' := fun pins s σ H x v vl vu lo hi sl Q I rx hs pl pu hr =>
  let ⟨r, ho, hq⟩ := h x lo hi H Q hr
  ho pins s σ H x v vl vu lo hi sl Q I rx hs pl pu hq
theorem cut_rep {K : KW} {H : Hp} {ds : List D} {vs : List V} (r : RepVs K H ds vs) (lo hi : Option Int) : RepVs K H (cutD ds lo hi) (cutV vs lo hi) := by
  unfold cutD cutV
  rw [r.length]
  exact .of (P2.take _ (P2.drop _ r.pair))
theorem cut_whole {α : Type} (vs : List α) (i j : Nat) (h : i = 0 ∧ j = vs.length) : (vs.drop i).take (j - i) = vs := by
  obtain ⟨rfl, rfl⟩ := h
  simp
theorem xd_sl : SlR X (lowSl X.kw slD) := slR_of fun x lo hi H QV ⟨d, h, Q, rx, hH, hr, hc⟩ => by
  cases d with
  | str z =>
    obtain ⟨rfl, ok⟩ := rx
    exact ⟨_, sl_str, z, rfl, ok.1, hc.str hH (ok.cut lo hi) hr⟩
  | tup ds =>
    obtain ⟨a, vs, rfl, s, r⟩ := rx
    have rc := cut_rep r lo hi
    refine ⟨_, sl_tupA, a, vs, rfl, s, fun z => ?_, fun _ l n => hc.tup hH n rc hr⟩
    have e : cutD ds lo hi = ds := by
      unfold cutD
      rw [r.length]
      exact cut_whole ds _ _ ⟨z.1, by rw [r.length]; exact z.2⟩
    have hr : Q (.tup (cutD ds lo hi)) h := hr
    rw [e] at hr
    exact hc.val hH (d := .tup ds) ⟨a, vs, rfl, s, r⟩ hr
  | rol ds =>
    obtain ⟨a, vs, rfl, s, r⟩ := rx
    exact ⟨_, sl_list, a, vs, rfl, s.sq, fun l n => hc.new hH n (cut_rep r lo hi) (hr l (hH.nofresh n))⟩
  | ref a =>
    cases (show x = _ from rx)
    have hr : slL h lo hi Q (h a) := hr
    cases q : h a with
    | none => rw [q] at hr; exact hr.elim
    | some o =>
      cases o with
      | lst ds =>
        rw [q] at hr
        obtain ⟨vs, e, r⟩ := hH _ _ q
        exact ⟨_, sl_list, a, vs, rfl, SqL.of e, fun l n => hc.new hH n (cut_rep r lo hi) (hr l (hH.nofresh n))⟩
      | dic _ => rw [q] at hr; exact hr.elim
      | ins _ _ => rw [q] at hr; exact hr.elim
  | _ => exact hr.elim
theorem de_slice {e : Expr} {lo hi : Option Expr} {te : E1} {tl tu : O1} {p2 pos : Pos} (he : DE X e te) (hl : DO X lo tl) (hu : DO X hi tu) : DE X (.Subscript e (.Slice lo hi none p2) pos) (dSl te tl tu) :=
  weakE (pe_slice xd_sl he hl hu) fun σV H QV ⟨σ, h, Q, hE, hH, ht, hc⟩ => by
    refine ⟨σ, h, _, hE, hH, ht, fun x h1 v1 H1 s1 hH1 r1 q1 => ?_⟩
    refine ⟨σ, h1, _, hE.mono (Stp.mo hH s1), hH1, q1, fun l h2 H2 s2 hH2 q2 => ?_⟩
    refine ⟨σ, h2, _, (hE.mono (Stp.mo hH s1)).mono (Stp.mo hH1 s2), hH2, q2, fun u h3 H3 s3 hH3 q3 => ?_⟩
    exact ⟨x, h3, Q, RepV.mono ((Stp.mo hH1 s2).trans (Stp.mo hH2 s3)) _ r1, hH3, q3, hc.step (s1.trans (s2.trans s3))⟩
/-! ### one-place operators -/
def negD (x : D) (h : MH) (Q : KD) : Prop := match x with
  | .int i => Q (.int (-i)) h
  | _ => False
def dUn (r : D → MH → KD → Prop) (t : E1) : E1 := fun σ h Q => t σ h fun x h1 => r x h1 Q
theorem de_neg {a : Expr} {ta : E1} {pos : Pos} (ha : DE X a ta) : DE X (.UnaryOp .USub a pos) (dUn negD ta) := weakE (pe_un un_neg ha) fun σV H QV ⟨σ, h, Q, hE, hH, ht, hc⟩ =>
  ⟨σ, h, _, hE, hH, ht, fun d h' v H' s' r' rv q => by
    cases d with
    | int i => exact ⟨i, rv, (hc.step s').int r' q⟩
    | _ => exact q.elim⟩
/-! ### tests -/
def asB (Q : Bool → MH → Prop) : KD := fun x h => match x with | .bool k => Q k h | _ => False
def dTest (t : E1) : T1 := fun σ h Q => t σ h (asB Q)
theorem asB_cl {K : KW} {h : MH} {H : Hp} {Q : Bool → MH → Prop} {QV : Bool → Hp → Prop} (hc : ClB K h H Q QV) : Cl K h H (asB Q) fun v H' => ∃ k, v = .bl k ∧ QV k H' := fun d h' v H' s' r' rv q => by
  cases d with
  | bool k => exact ⟨k, rv, hc k h' H' s' r' q⟩
  | _ => exact q.elim
theorem dt_cmpR {op : CmpOp} {r : R1} {a b : Expr} {ta tb : E1} {pos : Pos} (ho : OpR X (compareOp op) (lowR X.kw r)) (ha : DE X a ta) (hb : DE X b tb) (hm : behindInMarks op b = false) : DT X (.Compare a [op] [b] pos) (dTest (dOp r ta tb)) :=
  weakT (pt_cmpR ho ha hb hm) fun σV H QV ⟨σ, h, Q, hE, hH, ht, hc⟩ => low_op ⟨σ, h, asB Q, hE, hH, ht, asB_cl hc⟩
def truL (h : MH) (Q : Bool → MH → Prop) : Option (List D) → Prop
  | some ds => Q (!ds.isEmpty) h
  | none => False
def truD (x : D) (h : MH) (Q : Bool → MH → Prop) : Prop := match x with
  | .none => Q false h
  | .bool b => Q b h
  | .int i => Q (i != 0) h
  | .str z => Q (z.length != 0) h
  | x => truL h Q (seqOf h x)
def dTru (t : E1) : T1 := fun σ h Q => t σ h fun x h1 => truD x h1 Q
theorem isEmpty_rep {α β : Type} {R : α → β → Prop} {xs : List α} {ys : List β} (p : Paired R xs ys) : (!ys.isEmpty) = !xs.isEmpty := by cases p <;> rfl
theorem dt_tru {a : Expr} {ta : E1} (ha : DE X a ta) (he : ∀ whole, isTrue a X.env whole = (do let v ← whole; standAt a.pos; holding [v] (truthy v)) := by intro _; rfl) : DT X a (dTru ta) :=
  weakT (pt_truth ha he) fun σV H QV ⟨σ, h, Q, hE, hH, ht, hc⟩ => ⟨σ, h, _, hE, hH, ht, fun d h' v H' s' hH' rv q => by
    have fin : ∀ k, Q k h' → QV k H' := fun k z => hc k h' H' s' hH' z
    have sq : truL h' Q (seqOf h' d) → ∃ k, TruV X.K v H' k ∧ QV k H' := fun q => by
      cases e : seqOf h' d with
      | none => rw [e] at q; exact q.elim
      | some ds =>
        rw [e] at q
        obtain ⟨a, vs, rfl, r, hs⟩ := seq_rep hH' rv e
        refine ⟨_, ?_, fin _ q⟩
        rcases hs with hs | hs
        · exact .inl ⟨vs, hs, (isEmpty_rep r.pair).symm⟩
        · exact .inr (.inl ⟨vs, hs, (isEmpty_rep r.pair).symm⟩)
    cases d with
    | none => cases (show v = _ from rv); exact ⟨_, rfl, fin _ q⟩
    | bool b => cases (show v = _ from rv); exact ⟨_, rfl, fin _ q⟩
    | int b => cases (show v = _ from rv); exact ⟨_, rfl, fin _ q⟩
    | str z =>
      obtain ⟨rfl, ok⟩ := rv
      refine ⟨_, ⟨ok.1, rfl⟩, ?_⟩
      have e : (((z.length : Nat) : Int) != 0) = (z.length != 0) := by
        by_cases y : z.length = 0
        · rw [y]; rfl
        · rw [bne_iff_ne.mpr y, bne_iff_ne.mpr (by omega)]
      rw [e]
      exact fin _ q
    | _ => exact sq q⟩
def dAndT (t u : T1) : T1 := fun σ h Q => t σ h fun c h1 => if c = true then u σ h1 Q else Q false h1
def dOrT (t u : T1) : T1 := fun σ h Q => t σ h fun c h1 => if c = true then Q true h1 else u σ h1 Q
def dNotT (t : T1) : T1 := fun σ h Q => t σ h fun c h1 => Q (!c) h1
abbrev DW (X : Cx) (e : Expr) (t : T1) : Prop := PW X e (lowT X.kw t)
theorem weakW {e : Expr} {t t' : TT} (p : PW X e t) (w : ∀ σ H Q, t' σ H Q → t σ H Q) : PW X e t' := ⟨fun wh pins s σ H Q I h => p.run wh pins s σ H Q I (w σ H Q h)⟩
theorem dw_and1 {a : Expr} {ta : T1} {pos : Pos} (ha : DT X a ta) : DW X (.BoolOp .And [a] pos) ta := pw_and1 ha
theorem dw_or1 {a : Expr} {ta : T1} {pos : Pos} (ha : DT X a ta) : DW X (.BoolOp .Or [a] pos) ta := pw_or1 ha
theorem dw_and {a b : Expr} {rest : List Expr} {ta tb : T1} {pos : Pos} (ha : DT X a ta) (hb : DW X (.BoolOp .And (b :: rest) pos) tb) : DW X (.BoolOp .And (a :: b :: rest) pos) (dAndT ta tb) :=
  weakW (pw_and ha hb) fun σV H QV ⟨σ, h, Q, hE, hH, ht, hc⟩ => ⟨σ, h, _, hE, hH, ht, fun c h1 H1 s1 hH1 q => by
    cases c with
    | true => rw [if_pos rfl] at q ⊢; exact ⟨σ, h1, Q, hE.mono (Stp.mo hH s1), hH1, q, hc.step s1⟩
    | false => rw [if_neg Bool.false_ne_true] at q ⊢; exact hc _ _ _ s1 hH1 q⟩
theorem dw_or {a b : Expr} {rest : List Expr} {ta tb : T1} {pos : Pos} (ha : DT X a ta) (hb : DW X (.BoolOp .Or (b :: rest) pos) tb) : DW X (.BoolOp .Or (a :: b :: rest) pos) (dOrT ta tb) :=
  weakW (pw_or ha hb) fun σV H QV ⟨σ, h, Q, hE, hH, ht, hc⟩ => ⟨σ, h, _, hE, hH, ht, fun c h1 H1 s1 hH1 q => by
    cases c with
    | false => rw [if_neg Bool.false_ne_true] at q ⊢; exact ⟨σ, h1, Q, hE.mono (Stp.mo hH s1), hH1, q, hc.step s1⟩
    | true => rw [if_pos rfl] at q ⊢; exact hc _ _ _ s1 hH1 q⟩
theorem dt_w {e : Expr} {t : T1} (p : DW X e t) : DT X e t := PW.pt p
theorem dt_not {a : Expr} {ta : T1} {pos : Pos} (ha : DT X a ta) : DT X (.UnaryOp .Not a pos) (dNotT ta) :=
  weakT (pt_not ha) fun σV H QV ⟨σ, h, Q, hE, hH, ht, hc⟩ => ⟨σ, h, _, hE, hH, ht, fun c h1 H1 s1 hH1 q => hc _ _ _ s1 hH1 q⟩
/-! .. as values -/
def dAndV (t u : E1) : E1 := fun σ h Q => t σ h (asB fun c h1 => if c = true then u σ h1 Q else Q (.bool false) h1)
def dOrV (t u : E1) : E1 := fun σ h Q => t σ h (asB fun c h1 => if c = true then Q (.bool true) h1 else u σ h1 Q)
def dNotV (t : E1) : E1 := fun σ h Q => t σ h (asB fun c h1 => Q (.bool (!c)) h1)
theorem de_one {op} {a : Expr} {t : E1} {pos : Pos} (h : DE X a t) : DE X (.BoolOp op [a] pos) t := pe_one h
theorem de_and {a b : Expr} {rest : List Expr} {ta tb : E1} {pos : Pos} (ha : DE X a ta) (hb : DE X (.BoolOp .And (b :: rest) pos) tb) : DE X (.BoolOp .And (a :: b :: rest) pos) (dAndV ta tb) :=
  weakE (pe_and ha hb) fun σV H QV ⟨σ, h, Q, hE, hH, ht, hc⟩ => ⟨σ, h, _, hE, hH, ht, fun d h1 v H1 s1 hH1 rv q => by
    cases d with
    | bool c =>
      refine ⟨c, rv, ?_⟩
      have q : if c = true then tb σ h1 Q else Q (.bool false) h1 := q
      cases c with
      | true => rw [if_pos rfl] at q ⊢; exact ⟨σ, h1, Q, hE.mono (Stp.mo hH s1), hH1, q, hc.step s1⟩
      | false => rw [if_neg Bool.false_ne_true] at q ⊢; exact (hc.step s1).bl hH1 q
    | _ => exact q.elim⟩
theorem de_or {a b : Expr} {rest : List Expr} {ta tb : E1} {pos : Pos} (ha : DE X a ta) (hb : DE X (.BoolOp .Or (b :: rest) pos) tb) : DE X (.BoolOp .Or (a :: b :: rest) pos) (dOrV ta tb) :=
  weakE (pe_or ha hb) fun σV H QV ⟨σ, h, Q, hE, hH, ht, hc⟩ => ⟨σ, h, _, hE, hH, ht, fun d h1 v H1 s1 hH1 rv q => by
    cases d with
    | bool c =>
      refine ⟨c, rv, ?_⟩
      have q : if c = true then Q (.bool true) h1 else tb σ h1 Q := q
      cases c with
      | false => rw [if_neg Bool.false_ne_true] at q ⊢; exact ⟨σ, h1, Q, hE.mono (Stp.mo hH s1), hH1, q, hc.step s1⟩
      | true => rw [if_pos rfl] at q ⊢; exact (hc.step s1).bl hH1 q
    | _ => exact q.elim⟩
theorem de_not {a : Expr} {ta : E1} {pos : Pos} (ha : DE X a ta) : DE X (.UnaryOp .Not a pos) (dNotV ta) :=
  weakE (pe_not ha) fun σV H QV ⟨σ, h, Q, hE, hH, ht, hc⟩ => ⟨σ, h, _, hE, hH, ht, fun d h1 v H1 s1 hH1 rv q => by
    cases d with
    | bool c => exact ⟨c, rv, (hc.step s1).bl hH1 q⟩
    | _ => exact q.elim⟩
def dIf (t : T1) (ta tb : E1) : E1 := fun σ h Q => t σ h fun c h1 => if c = true then ta σ h1 Q else tb σ h1 Q
theorem de_ifExp {c a b : Expr} {tc : T1} {ta tb : E1} {pos : Pos} (hc : DT X c tc) (ha : DE X a ta) (hb : DE X b tb) : DE X (.IfExp c a b pos) (dIf tc ta tb) :=
  weakE (pe_ifExp hc ha hb) fun σV H QV ⟨σ, h, Q, hE, hH, ht, hc⟩ => ⟨σ, h, _, hE, hH, ht, fun c h1 H1 s1 hH1 q => by
    cases c with
    | true => rw [if_pos rfl] at q ⊢; exact ⟨σ, h1, Q, hE.mono (Stp.mo hH s1), hH1, q, hc.step s1⟩
    | false => rw [if_neg Bool.false_ne_true] at q ⊢; exact ⟨σ, h1, Q, hE.mono (Stp.mo hH s1), hH1, q, hc.step s1⟩⟩
/-! a < b < c -/
def dChain (r r' : R1) (ta tb tc : E1) : E1 := fun σ h Q => ta σ h fun x h1 => tb σ h1 fun y h2 => r x y h2 (asB fun k h3 => if k = true then tc σ h3 fun z h4 => r' y z h4 Q else Q (.bool false) h3)
end
end DL
namespace DL
open PySem PySem.Spec PyProof.Rows L2
/-! ### statements -/
structure Nd where
  nx : Sl → MH → Prop
  rt : KD
  bk : Sl → MH → Prop := fun _ _ => False
  ct : Sl → MH → Prop := fun _ _ => False
abbrev S1 := Nd → Sl → MH → Prop
def ClN (K : KW) (h : MH) (H : Hp) (n : Sl → MH → Prop) (nV : L2.St → Hp → Prop) : Prop := ∀ σ' h' σV' H', Stp h H h' H' → RepE K H' σ' σV' → RepH K h' H' → n σ' h' → nV σV' H'
structure ClS (K : KW) (h : MH) (H : Hp) (D : Nd) (DV : Ends) : Prop where
  nx : ClN K h H D.nx DV.nx
  rt : Cl K h H D.rt DV.rt
  bk : ClN K h H D.bk DV.bk
  ct : ClN K h H D.ct DV.ct
theorem ClN.step {K : KW} {h h1 : MH} {H H1 : Hp} {n : Sl → MH → Prop} {nV : L2.St → Hp → Prop} (s : Stp h H h1 H1) (c : ClN K h H n nV) : ClN K h1 H1 n nV := fun a b d e s' x y z => c a b d e (s.trans s') x y z
theorem ClS.step {K : KW} {h h1 : MH} {H H1 : Hp} {D : Nd} {DV : Ends} (s : Stp h H h1 H1) (c : ClS K h H D DV) : ClS K h1 H1 D DV := ⟨c.nx.step s, c.rt.step s, c.bk.step s, c.ct.step s⟩
def lowS (K : KW) (t : S1) : TS := fun DV σV H => ∃ D σ h, RepE K H σ σV ∧ RepH K h H ∧ t D σ h ∧ ClS K h H D DV
theorem weakS {X : Cx} {e : Stmt} {t t' : TS} (p : PS X e t) (w : ∀ D σ H, t' D σ H → t D σ H) : PS X e t' := ⟨fun pins s σ H D I h => p.run pins s σ H D I (w D σ H h)⟩
theorem weakSs {X : Cx} {e : List Stmt} {t t' : TS} (p : PSs X e t) (w : ∀ D σ H, t' D σ H → t D σ H) : PSs X e t' := ⟨fun pins s σ H D I h => p.run pins s σ H D I (w D σ H h)⟩
abbrev DS (X : Cx) (st : Stmt) (t : S1) : Prop := PS X st (lowS X.kw t)
abbrev DSs (X : Cx) (st : List Stmt) (t : S1) : Prop := PSs X st (lowS X.kw t)
section
variable {X : Cx}
def dNext : S1 := fun D σ h => D.nx σ h
def dSeq (t u : S1) : S1 := fun D σ h => t { D with nx := u D } σ h
theorem dss_nil : DSs X [] dNext := weakSs pss_nil fun DV σV H ⟨D, σ, h, hE, hH, ht, hc⟩ => hc.nx σ h σV H Stp.refl hE hH ht
theorem dss_one {st : Stmt} {t : S1} (a : DS X st t) : DSs X [st] t := pss_one a
theorem dss_cons {st : Stmt} {rest : List Stmt} {t u : S1} (a : DS X st t) (b : DSs X rest u) : DSs X (st :: rest) (dSeq t u) := weakSs (pss_cons a b) fun DV σV H ⟨D, σ, h, hE, hH, ht, hc⟩ =>
  ⟨{ D with nx := u D }, σ, h, hE, hH, ht, ⟨fun σ' h' σV' H' s' e' r' q => ⟨D, σ', h', e', r', q, hc.step s'⟩, hc.rt, hc.bk, hc.ct⟩⟩
def dBrk : S1 := fun D σ h => D.bk σ h
def dCnt : S1 := fun D σ h => D.ct σ h
theorem ds_pass {pos : Pos} : DS X (.Pass pos) dNext := weakS ps_pass fun DV σV H ⟨D, σ, h, hE, hH, ht, hc⟩ => hc.nx σ h σV H Stp.refl hE hH ht
theorem ds_break {pos : Pos} : DS X (.Break pos) dBrk := weakS ps_break fun DV σV H ⟨D, σ, h, hE, hH, ht, hc⟩ => hc.bk σ h σV H Stp.refl hE hH ht
theorem ds_continue {pos : Pos} : DS X (.Continue pos) dCnt := weakS ps_continue fun DV σV H ⟨D, σ, h, hE, hH, ht, hc⟩ => hc.ct σ h σV H Stp.refl hE hH ht
theorem ds_doc {x j pos pos'} : DS X (.Expr (.Constant (.str x) j pos) pos') dNext := weakS ps_doc fun DV σV H ⟨D, σ, h, hE, hH, ht, hc⟩ => hc.nx σ h σV H Stp.refl hE hH ht
def dDrop (t : E1) : S1 := fun D σ h => t σ h fun _ h1 => D.nx σ h1
theorem ds_expr {e : Expr} {t : E1} {pos : Pos} (p : DE X e t) (hs : swapsWith e none pos.line X.env = pure false := by rfl) : DS X (.Expr e pos) (dDrop t) := weakS (ps_expr p hs) fun DV σV H ⟨D, σ, h, hE, hH, ht, hc⟩ =>
  ⟨σ, h, _, hE, hH, ht, fun d h' v H' s' r' rv q => hc.nx σ h' σV H' s' (hE.mono (Stp.mo hH s')) r' q⟩
def dRet (t : E1) : S1 := fun D σ h => t σ h D.rt
theorem ds_ret {e : Expr} {t : E1} {pos : Pos} (p : DE X e t) : DS X (.Return (some e) pos) (dRet t) := weakS (ps_ret p) fun DV σV H ⟨D, σ, h, hE, hH, ht, hc⟩ => ⟨σ, h, _, hE, hH, ht, hc.rt⟩
def dRetN : S1 := fun D _ h => D.rt .none h
theorem ds_retN {pos : Pos} : DS X (.Return none pos) dRetN := weakS ps_retN fun DV σV H ⟨D, σ, h, hE, hH, ht, hc⟩ => hc.rt.non hH ht
def dIfS (c : T1) (t u : S1) : S1 := fun D σ h => c σ h fun b h1 => if b = true then t D σ h1 else u D σ h1
theorem ds_if {c : Expr} {a b : List Stmt} {tc : T1} {t u : S1} {pos : Pos} (hc : DT X c tc) (ha : DSs X a t) (hb : DSs X b u) : DS X (.If c a b pos) (dIfS tc t u) := weakS (ps_if hc ha hb) fun DV σV H ⟨D, σ, h, hE, hH, ht, hc⟩ =>
  ⟨σ, h, _, hE, hH, ht, fun b h' H' s' r' q => by
    cases b with
    | true => rw [if_pos rfl] at q ⊢; exact ⟨D, σ, h', hE.mono (Stp.mo hH s'), r', q, hc.step s'⟩
    | false => rw [if_neg Bool.false_ne_true] at q ⊢; exact ⟨D, σ, h', hE.mono (Stp.mo hH s'), r', q, hc.step s'⟩⟩
/-! ### targets; P: what the stores leave alone -/
structure Pr where
  rel : L2.St → L2.St → Prop
  re : ∀ a, rel a a
  tr : ∀ a b c, rel a b → rel b c → rel a c
def P0 : Pr := ⟨fun _ _ => True, fun _ => trivial, fun _ _ _ _ _ => trivial⟩
def Pw (vs : List Nat) : Pr := ⟨fun a b => wipe b vs = wipe a vs, fun _ => rfl, fun a b c h k => k.trans h⟩
abbrev G1 := D → Sl → MH → (Sl → MH → Prop) → Prop
abbrev Gs1 := List D → Sl → MH → (Sl → MH → Prop) → Prop
def ClG (K : KW) (P : Pr) (σV : L2.St) (h : MH) (H : Hp) (n : Sl → MH → Prop) (nV : L2.St → Hp → Prop) : Prop := ∀ σ' h' σV' H', P.rel σV σV' → Stp h H h' H' → RepE K H' σ' σV' → RepH K h' H' → n σ' h' → nV σV' H'
def lowG (K : KW) (P : Pr) (g : G1) : TG := fun v σV H QV => ∃ d σ h Q, RepV K H d v ∧ RepE K H σ σV ∧ RepH K h H ∧ g d σ h Q ∧ ClG K P σV h H Q QV
def lowGs (K : KW) (P : Pr) (g : Gs1) : TGs := fun vs σV H QV => ∃ ds σ h Q, RepVs K H ds vs ∧ RepE K H σ σV ∧ RepH K h H ∧ g ds σ h Q ∧ ClG K P σV h H Q QV
abbrev DG (X : Cx) (P : Pr) (e : Expr) (g : G1) : Prop := PG X e (lowG X.kw P g)
abbrev DGs (X : Cx) (P : Pr) (es : List Expr) (g : Gs1) : Prop := PGs X es (lowGs X.kw P g)
theorem weakG {e : Expr} {t t' : TG} (p : PG X e t) (w : ∀ v σ H Q, t' v σ H Q → t v σ H Q) : PG X e t' := ⟨fun pins s σ H v u Q I r h => p.run pins s σ H v u Q I r (w v σ H Q h)⟩
theorem weakGs {e : List Expr} {t t' : TGs} (p : PGs X e t) (w : ∀ v σ H Q, t' v σ H Q → t v σ H Q) : PGs X e t' := ⟨fun pins s σ H v u Q I r h => p.run pins s σ H v u Q I r (w v σ H Q h)⟩
def gN (i : Nat) : G1 := fun d σ h Q => Q (put σ i (some d)) h
def OkAt (P : Pr) (i : Nat) : Prop := ∀ σ v, P.rel σ (σ.set i (some v))
theorem okAt0 {i : Nat} : OkAt P0 i := fun _ _ => trivial
theorem wipe_put {i : Nat} {x : Option V} : ∀ (vs : List Nat) (σ : L2.St), i ∈ vs → wipe (σ.set i x) vs = wipe σ vs
  | [], _, h => by cases h
  | v :: vs, σ, h => by
    have out : ∀ (vs : List Nat) (τ : L2.St), i ∉ vs → wipe (τ.set i x) vs = (wipe τ vs).set i x := by
      intro vs
      induction vs with
      | nil => intro τ _; rfl
      | cons u us ih =>
        intro τ hn
        rw [List.mem_cons, not_or] at hn
        show (wipe (τ.set i x) us).set u none = ((wipe τ us).set u none).set i x
        rw [ih τ hn.2, List.set_comm _ _ hn.1]
    show (wipe (σ.set i x) vs).set v none = (wipe σ vs).set v none
    by_cases m : i ∈ vs
    · rw [wipe_put vs σ m]
    · have e : i = v := by
        rcases List.mem_cons.mp h with e | e
        · exact e
        · exact absurd e m
      subst e
      rw [out vs σ m, List.set_set]
theorem okAtW {vs : List Nat} {i : Nat} (h : i ∈ vs) : OkAt (Pw vs) i := fun σ v => wipe_put vs σ h
theorem dg_name (i : Nat) {P : Pr} (ok : OkAt P i) {x : Str} {pos : Pos} (hN : X.N.Nodup) (hi : X.N[i]? = some x) (hx : Loc X.env.scope x) (hf : X.fn x = true ∨ X.env.scope.names.lookup x = some .local := by first | exact .inl rfl | exact .inr rfl | assumption) : DG X P (.Name x pos) (gN i) :=
  weakG (pg_name hN hi hx hf) fun v σV H QV ⟨d, σ, h, Q, rv, hE, hH, hg, hc⟩ => hc _ h _ H (ok σV v) Stp.refl (hE.put rv) hH hg
def gNl : Gs1 := fun ds σ h Q => match ds with
  | [] => Q σ h
  | _ :: _ => False
def gCn (g : G1) (gs : Gs1) : Gs1 := fun ds σ h Q => match ds with
  | [] => False
  | d :: r => g d σ h fun σ' h' => gs r σ' h' Q
theorem dgs_nil {P : Pr} : DGs X P [] gNl := weakGs pgs_nil fun v σV H QV ⟨ds, σ, h, Q, rv, hE, hH, hg, hc⟩ => by
  cases ds with
  | nil => exact ⟨rv, hc σ h σV H (P.re _) Stp.refl hE hH hg⟩
  | cons d r => exact hg.elim
theorem dgs_cons {P : Pr} {e : Expr} {es : List Expr} {g : G1} {gs : Gs1} (a : DG X P e g) (b : DGs X P es gs) (hs : (assignEach (e :: es) X.env).map (·.2) = assign e X.env :: (assignEach es X.env).map (·.2) := by rfl) : DGs X P (e :: es) (gCn g gs) :=
  weakGs (pgs_cons a b hs) fun v σV H QV ⟨ds, σ, h, Q, rv, hE, hH, hg, hc⟩ => by
    cases ds with
    | nil => exact hg.elim
    | cons d r =>
      obtain ⟨w, us, rfl, r1, r2⟩ := rv
      refine ⟨w, us, rfl, d, σ, h, _, r1, hE, hH, hg, fun σ' h' σV' H' p' s' e' r' q => ?_⟩
      exact ⟨r, σ', h', Q, RepVs.mono (Stp.mo hH s') _ r2, e', r', q, fun σ2 h2 σV2 H2 p2 s2 e2 z2 q2 => hc σ2 h2 σV2 H2 (P.tr _ _ _ p' p2) (s'.trans s2) e2 z2 q2⟩
def gTp (n : Nat) (gs : Gs1) : G1 := fun d σ h Q => match d with
  | .tup ds => ds.length = n ∧ gs ds σ h Q
  | _ => False
theorem dg_tup {P : Pr} {es : List Expr} {k : Nat} {gs : Gs1} {n : Nat} {pos : Pos} (hc : X.calm = true) (a : DGs X P es gs) (hn : (assignEach es X.env).length = n := by rfl) (hst : (assignEach es X.env).findIdx? (·.1) = none := by rfl) : DG X P (.Tuple es k pos) (gTp n gs) :=
  weakG (pg_tup hc a hn hst) fun v σV H QV ⟨d, σ, h, Q, rv, hE, hH, hg, hc⟩ => by
    cases d with
    | tup ds =>
      obtain ⟨a, vs, rfl, s, r⟩ := rv
      exact ⟨a, vs, rfl, s, by rw [← r.length]; exact hg.1, ds, σ, h, Q, r, hE, hH, hg.2, hc⟩
    | _ => exact hg.elim
/-! .. a place of a list -/
abbrev Set1 := D → D → D → MH → (MH → Prop) → Prop
def ClM (K : KW) (h : MH) (H : Hp) (n : MH → Prop) (nV : Hp → Prop) : Prop := ∀ h' H', Stp h H h' H' → RepH K h' H' → n h' → nV H'
def lowSet (K : KW) (r : Set1) : TSet := fun o i v H QV => ∃ a b d h Q, RepV K H a o ∧ RepV K H b i ∧ RepV K H d v ∧ RepH K h H ∧ r a b d h Q ∧ ClM K h H Q QV
def setL (p : Addr) (i d : D) (h : MH) (Q : MH → Prop) (xs : List D) : Prop := match i with
  | .int k => match ixN xs.length k with
    | some j => Q (up h p (.lst (xs.set j d)))
    | none => False
  | _ => False
def setDic (p : Addr) (i d : D) (h : MH) (Q : MH → Prop) (kvs : Kvs) : Prop := fit kvs i = true ∧ kvs.length < sizeLine ∧ Q (up h p (.dic (dset kvs i d)))
def setO (p : Addr) (i d : D) (h : MH) (Q : MH → Prop) : Option MO → Prop
  | some (.lst xs) => setL p i d h Q xs
  | some (.dic kvs) => setDic p i d h Q kvs
  | _ => False
def setD : Set1 := fun o i d h Q => match o with
  | .ref p => setO p i d h Q (h p)
  | _ => False
theorem xd_set (hu : X.A.units + 64 < cLine) : PSet X (lowSet X.kw setD) := by
  intro pins s σ H o i v ov iv u QV I r1 r2 r3 ⟨a, b, d, h, Q, ro, ri, rv, hH, hr, hc⟩
  cases a <;> first | (exact hr.elim) | skip
  rename_i p
  have hr : setO p b d h Q (h p) := hr
  have eo : o = .ref p := ro
  subst eo
  cases q : h p with
  | none => rw [q] at hr; exact hr.elim
  | some w =>
    rw [q] at hr
    cases w with
    | lst xs =>
      have hr : setL p b d h Q xs := hr
      cases b <;> first | (exact hr.elim) | skip
      rename_i k _ _
      cases (show i = _ from ri)
      unfold setL at hr
      simp only at hr
      obtain ⟨vs, e, r⟩ := hH _ _ q
      cases e2 : ixN xs.length k with
      | none => rw [e2] at hr; exact hr.elim
      | some j =>
        rw [e2] at hr
        exact set_list pins s σ H _ _ v ov iv u QV I r1 r2 r3 ⟨p, vs, k, j, rfl, rfl, e, by rw [← r.length]; exact e2, hc _ _ (Stp.write q) (hH.write q (.of (P2.set rv j r.pair))) hr⟩
    | dic kvs =>
      cases r1
      obtain ⟨ft, hl, hq⟩ := (show setDic p b d h Q kvs from hr)
      exact dd_setItem hu I (hH _ _ q) ri r2 rv r3 ft hl fun s' o' I' ro' => ⟨_, I', hc _ _ (Stp.write q) (hH.writeO q ro') hq⟩
    | ins _ _ => exact hr.elim
def gSb (to ti : E1) (t : Set1) : G1 := fun d σ h Q => to σ h fun o h1 => ti σ h1 fun i h2 => t o i d h2 fun h3 => Q σ h3
theorem dg_sub (hu : X.A.units + 64 < cLine) {P : Pr} {o i : Expr} {to ti : E1} {pos : Pos} (ho : DE X o to) (hi : DE X i ti)
    (ha : ∀ v, assign (.Subscript o i pos) X.env v = (do
      let ov ← holding [v] (eval o X.env)
      let iv ← holding [v, ov] (eval i X.env)
      standAt pos
      holding [v, ov, iv] (setItem ov iv v)
      release [v, ov, iv] []) := by intro _; rfl) : DG X P (.Subscript o i pos) (gSb to ti setD) :=
  weakG (pg_sub ho hi (xd_set hu) ha) fun v σV H QV ⟨d, σ, h, Q, rv, hE, hH, hg, hc⟩ => by
    refine ⟨σ, h, _, hE, hH, hg, fun a h1 x H1 s1 hH1 r1 q1 => ?_⟩
    refine ⟨σ, h1, _, hE.mono (Stp.mo hH s1), hH1, q1, fun b h2 y H2 s2 hH2 r2 q2 => ?_⟩
    have m1 := Stp.mo hH s1
    have m2 := Stp.mo hH1 s2
    refine ⟨a, b, d, h2, _, RepV.mono m2 _ r1, r2, RepV.mono (m1.trans m2) _ rv, hH2, q2, fun h3 H3 s3 hH3 q3 => ?_⟩
    exact hc σ h3 σV H3 (P.re _) (s1.trans (s2.trans s3)) (hE.mono ((m1.trans m2).trans (Stp.mo hH2 s3))) hH3 q3
/-! ### assignments -/
def dAsg (t : E1) (g : G1) : S1 := fun D σ h => t σ h fun x h1 => g x σ h1 D.nx
theorem ds_asg {tg e : Expr} {t : E1} {g : G1} {pos : Pos} (he : DE X e t) (hg : DG X P0 tg g) (hs : swapsWithSole [tg] e pos.line X.env = pure false := by rfl) (hw : swappedStores [tg] e X.env = pure none := by rfl)
    (h1 : (assignEach [tg] X.env).map (·.2) = [assign tg X.env] := by rfl) : DS X (.Assign [tg] e pos) (dAsg t g) := weakS (ps_asg he hg hs hw h1) fun DV σV H ⟨D, σ, h, hE, hH, ht, hc⟩ =>
  ⟨σ, h, _, hE, hH, ht, fun d h' v H' s' r' rv q => ⟨d, σ, h', _, rv, hE.mono (Stp.mo hH s'), r', q, fun σ2 h2 σV2 H2 _ s2 e2 z2 q2 => hc.nx σ2 h2 σV2 H2 (s'.trans s2) e2 z2 q2⟩⟩
theorem ds_set (i : Nat) {x : Str} {e : Expr} {t : E1} {pos pos' : Pos} (hN : X.N.Nodup) (hi : X.N[i]? = some x) (hx : Loc X.env.scope x) (he : DE X e t) (hs : swapsWith e (some (.Name x pos')) pos.line X.env = pure false := by rfl) (hf : X.fn x = true ∨ X.env.scope.names.lookup x = some .local := by first | exact .inl rfl | exact .inr rfl | assumption) :
    DS X (.Assign [.Name x pos'] e pos) (dAsg t (gN i)) := weakS (ps_set hN hi hx he hs hf) fun DV σV H ⟨D, σ, h, hE, hH, ht, hc⟩ =>
  ⟨σ, h, _, hE, hH, ht, fun d h' v H' s' r' rv q => hc.nx _ h' _ H' s' ((hE.mono (Stp.mo hH s')).put rv) r' q⟩
def dPar (i j : Nat) (ta : A1) : S1 := fun D σ h => ta σ h fun ds h1 => match ds with
  | [d, e] => D.nx (put (put σ i (some d)) j (some e)) h1
  | _ => False
theorem ds_par {i j : Nat} {x y : Str} {a b : Expr} {ta : A1} {px py pt pos : Pos} {kt k2 pt2} (hc : X.calm = true) (hN : X.N.Nodup) (hi : X.N[i]? = some x) (hj : X.N[j]? = some y) (hij : i ≠ j)
    (hx : X.env.scope.names.lookup x = some .local) (hy : X.env.scope.names.lookup y = some .local) (ha : DA X [a, b] ta)
    (hw : swappedStores [.Tuple [.Name x px, .Name y py] kt pt] (.Tuple [a, b] k2 pt2) X.env = pure (some [x, y]))
    (hs : swapsWithSole [.Tuple [.Name x px, .Name y py] kt pt] (.Tuple [a, b] k2 pt2) pos.line X.env = pure false := by rfl) :
    DS X (.Assign [.Tuple [.Name x px, .Name y py] kt pt] (.Tuple [a, b] k2 pt2) pos) (dPar i j ta) := weakS (ps_par hc hN hi hj hij hx hy ha hw hs) fun DV σV H ⟨D, σ, h, hE, hH, ht, hc⟩ =>
  ⟨σ, h, _, hE, hH, ht, fun ds h' vs H' s' r' rv q => by
    match ds, rv, q with
    | [], _, q => exact q.elim
    | [_], _, q => exact q.elim
    | _ :: _ :: _ :: _, _, q => exact q.elim
    | [d, e], rv, q =>
      obtain ⟨v, r, rfl, r1, v2, r2, rfl, r3, r4⟩ := rv
      cases (show r2 = [] from r4)
      exact ⟨v, v2, rfl, hc.nx _ h' _ H' s' (((hE.mono (Stp.mo hH s')).put r1).put r3) r' q⟩⟩
/-! x op= e -/
def lowIp (K : KW) (r : R1) : TIp := lowR K r
def dAug (i : Nat) (t : E1) (r : R1) : S1 := fun D σ h => match nth σ i with
  | some x => t σ h fun y h1 => r x y h1 fun z h2 => D.nx (put σ i (some z)) h2
  | none => False
def iaddD : R1 := fun x y h Q => match x, y with
  | .int i, .int j => Q (.int (i + j)) h
  | .str a, .str b => a.length + b.length ≤ sizeLine ∧ Q (.str (a ++ b)) h
  | _, _ => False
theorem xd_iadd : PIp X .Add (lowIp X.kw iaddD) := by
  intro pins s σ H x y v u Q I r1 r2 ⟨d, e, h, QD, rx, ry, hH, hr, hc⟩
  cases d <;> cases e <;> try exact hr.elim
  case int.int i j => exact ip_add pins s σ H x y v u Q I r1 r2 ⟨i, j, rx, ry, hc.int hH hr⟩
  case str.str a b =>
    obtain ⟨rfl, o1⟩ := rx
    obtain ⟨rfl, o2⟩ := ry
    exact iop_add_str pins s σ H _ _ v u Q I r1 r2 ⟨a, b, rfl, rfl, hr.1, hc.str hH (o1.app o2 hr.1) hr.2⟩
theorem xd_isub : PIp X .Sub (lowIp X.kw subD) := by
  intro pins s σ H x y v u Q I r1 r2 ⟨d, e, h, QD, rx, ry, hH, hr, hc⟩
  cases d <;> cases e <;> try exact hr.elim
  case int.int i j => exact ip_sub pins s σ H x y v u Q I r1 r2 ⟨i, j, rx, ry, hc.int hH hr⟩
theorem ds_aug (i : Nat) {x : Str} {e : Expr} {t : E1} {op : Operator} {r : R1} {pos pos' : Pos} (hN : X.N.Nodup) (hi : X.N[i]? = some x) (hx : Loc X.env.scope x) (he : DE X e t) (ho : PIp X op (lowIp X.kw r)) (hf : X.fn x = true ∨ X.env.scope.names.lookup x = some .local := by first | exact .inl rfl | exact .inr rfl | assumption) :
    DS X (.AugAssign (.Name x pos') op e pos) (dAug i t r) := weakS (ps_aug hN hi hx he ho hf) fun DV σV H ⟨D, σ, h, hE, hH, ht, hc⟩ => by
  unfold dAug at ht
  cases q : nth σ i with
  | none => rw [q] at ht; exact ht.elim
  | some d =>
    rw [q] at ht
    obtain ⟨v, e1, rv⟩ := hE.val i d q
    refine ⟨v, e1, σ, h, _, hE, hH, ht, fun e h1 u H1 s1 hH1 ru q1 => ?_⟩
    have m1 := Stp.mo hH s1
    refine ⟨d, e, h1, _, RepV.mono m1 _ rv, ru, hH1, q1, fun z h2 w H2 s2 hH2 rw' q2 => ?_⟩
    exact hc.nx _ h2 _ H2 (s1.trans s2) ((hE.mono (m1.trans (Stp.mo hH1 s2))).put rw') hH2 q2
/-! xs[i] op= e -/
def lowGet (K : KW) (r : R1) : V → V → Hp → VK → Prop := lowR K r
def getL (i : D) (h : MH) (Q : KD) (xs : List D) : Prop := match i with
  | .int k => match atI xs k with
    | some d => 0 ≤ k ∧ Q d h
    | none => False
  | _ => False
def getO (i : D) (h : MH) (Q : KD) : Option MO → Prop
  | some (.lst xs) => getL i h Q xs
  | some (.dic kvs) => ixDic kvs i h Q
  | _ => False
def getD1 : R1 := fun x y h Q => match x with
  | .ref p => getO y h Q (h p)
  | _ => False
theorem xd_get (hu : X.A.units + 64 < cLine) : PGet X (lowGet X.kw getD1) := by
  intro pins s σ H o i ov iv Q I ro ri ⟨d, e, h, QD, rx, ry, hH, hr, hc⟩
  cases d <;> first | (exact hr.elim) | skip
  rename_i p
  cases (show o = _ from rx)
  have hr : getO e h QD (h p) := hr
  cases q : h p with
  | none => rw [q] at hr; exact hr.elim
  | some u =>
    rw [q] at hr
    cases u with
    | lst xs =>
      have hr : getL e h QD xs := hr
      cases e <;> first | (exact hr.elim) | skip
      rename_i k _ _
      cases (show i = _ from ry)
      unfold getL at hr
      simp only at hr
      obtain ⟨vs, e, r⟩ := hH _ _ q
      cases e2 : atI xs k with
      | none => rw [e2] at hr; exact hr.elim
      | some z =>
        rw [e2] at hr
        obtain ⟨w, hw, rw'⟩ := atI_rep r.pair e2
        cases ro
        obtain ⟨t, rfl⟩ := ri
        obtain ⟨its, rv, pl, hz⟩ := I.list (SqL.of e)
        obtain ⟨j, j1, j2, j3, j4, j5⟩ := atI_get hw
        have hl := rv.length
        have hn := line63
        obtain ⟨uw, eu, ru⟩ := rv.get j2
        have hj : k.toNat = j := by
          rw [seqIndex_of hr.1 j5] at j1
          exact Option.some.inj j1
        exact wpAny_getItem_list pl.isList hr.1 (by omega) (by rw [hj]; simpa using eu) ⟨w, H, I, ru, hc.val hH rw' hr.2⟩
    | dic kvs =>
      cases ro
      obtain ⟨ft, hr⟩ := (show ixDic kvs e h QD from hr)
      cases g : dget kvs e with
      | none => rw [g] at hr; exact hr.elim
      | some f =>
        rw [g] at hr
        exact dd_getItem hu I (hH _ _ q) ry ri ft g fun w' s' I' ⟨z, rz, rf⟩ => ⟨z, H, I', rz, hc.val hH rf hr⟩
    | ins _ _ => exact hr.elim
def dAugS (to ti te : E1) (r : R1) : S1 := fun D σ h => to σ h fun o h1 => ti σ h1 fun i h2 => getD1 o i h2 fun x h3 => te σ h3 fun y h4 => r x y h4 fun z h5 => setD o i z h5 fun h6 => D.nx σ h6
theorem ds_augS (hu : X.A.units + 64 < cLine) {o i e : Expr} {to ti te : E1} {op : Operator} {r : R1} {pos tpos : Pos} (ho : DE X o to) (hi : DE X i ti) (he : DE X e te) (hp : PIp X op (lowIp X.kw r))
    (ha : ∀ ov iv new, augStore i ov iv new = (do holding [new, ov, iv] (setItem ov iv new); release [new, ov, iv] []; pure .next) := by intros; rfl) : DS X (.AugAssign (.Subscript o i tpos) op e pos) (dAugS to ti te r) :=
  weakS (ps_augS ho hi (xd_get hu) he hp (xd_set hu) ha) fun DV σV H ⟨D, σ, h, hE, hH, ht, hc⟩ => by
    refine ⟨σ, h, _, hE, hH, ht, fun a h1 x H1 s1 hH1 r1 q1 => ?_⟩
    have m1 := Stp.mo hH s1
    refine ⟨σ, h1, _, hE.mono m1, hH1, q1, fun b h2 y H2 s2 hH2 r2 q2 => ?_⟩
    have m2 := Stp.mo hH1 s2
    refine ⟨a, b, h2, _, RepV.mono m2 _ r1, r2, hH2, q2, fun d h3 z H3 s3 hH3 r3 q3 => ?_⟩
    have m3 := Stp.mo hH2 s3
    refine ⟨σ, h3, _, hE.mono ((m1.trans m2).trans m3), hH3, q3, fun e h4 u H4 s4 hH4 r4 q4 => ?_⟩
    have m4 := Stp.mo hH3 s4
    refine ⟨d, e, h4, _, RepV.mono m4 _ r3, r4, hH4, q4, fun f h5 w H5 s5 hH5 r5 q5 => ?_⟩
    have m5 := Stp.mo hH4 s5
    refine ⟨a, b, f, h5, _, RepV.mono ((m2.trans m3).trans (m4.trans m5)) _ r1, RepV.mono (m3.trans (m4.trans m5)) _ r2, r5, hH5, q5, fun h6 H6 s6 hH6 q6 => ?_⟩
    exact hc.nx σ h6 σV H6 (s1.trans (s2.trans (s3.trans (s4.trans (s5.trans s6))))) (hE.mono (((m1.trans m2).trans (m3.trans m4)).trans (m5.trans (Stp.mo hH5 s6)))) hH6 q6
end
end DL
namespace DL
open PySem PySem.Spec PyProof.Rows L2
/-! ### what is walked -/
structure SrcOk (K : KW) (J : It) (xs : List D) (stab : MH → Prop) (h1 : MH) (H1 : Hp) : Prop where
  go : ∀ h H i, Stp h1 H1 h H → RepH K h H → stab h → i < xs.length → J.go i H
  yl : ∀ h H i v H', Stp h1 H1 h H → RepH K h H → stab h → i < xs.length → J.yld i H v H' → ∃ d, xs[i]? = some d ∧ RepV K H' d v ∧ Stp h H h H' ∧ RepH K h H'
  st : ∀ h H, Stp h1 H1 h H → RepH K h H → stab h → J.stop xs.length H
abbrev I1 := Sl → MH → (List D → (MH → Prop) → MH → Prop) → Prop
def lowI (K : KW) (t : I1) : TI := fun σV H R => ∃ σ h Q, RepE K H σ σV ∧ RepH K h H ∧ t σ h Q ∧ ∀ xs stab h1 J H1, Stp h H h1 H1 → RepH K h1 H1 → SrcOk K J xs stab h1 H1 → Q xs stab h1 → R J H1
abbrev DI (X : Cx) (tg it : Expr) (t : I1) : Prop := PI X tg it (lowI X.kw t)
theorem weakI {X : Cx} {tg e : Expr} {t t' : TI} (p : PI X tg e t) (w : ∀ σ H Q, t' σ H Q → t σ H Q) : PI X tg e t' := ⟨fun pins s σ H Q I h => p.run pins s σ H Q I (w σ H Q h)⟩
/-- the signs of a text -/
def signs (z : Str) : List D := z.cps.toList.map fun c => .str ⟨#[c]⟩
def stabO (a : Addr) (xs : List D) : MH → Prop := fun h => h a = some (.lst xs)
def srcO (a : Addr) (h : MH) (Q : List D → (MH → Prop) → MH → Prop) : Option MO → Prop
  | some (.lst xs) => Q xs (stabO a xs) h
  | _ => False
/-- what a value is, walked -/
def srcD (d : D) (h : MH) (Q : List D → (MH → Prop) → MH → Prop) : Prop := match d with
  | .tup xs => Q xs (fun _ => True) h
  | .rol xs => Q xs (fun _ => True) h
  | .str z => Q (signs z) (fun _ => True) h
  | .ref a => srcO a h Q (h a)
  | _ => False
def iSeq (t : E1) : I1 := fun σ h Q => t σ h fun d h1 => srcD d h1 Q
section
variable {K : KW}
theorem src_tup {H1 : Hp} {h1 : MH} {a : Addr} {xs : List D} {vs : List V} (r1 : RepH K h1 H1) (s : SqT K.F H1 a vs) (r : RepVs K H1 xs vs) : SrcOk K (Itt K.F a) xs (fun _ => True) h1 H1 := by
  have up : ∀ h H, Stp h1 H1 h H → SqT K.F H a vs ∧ RepVs K H xs vs := fun h H q => ⟨(Stp.mo r1 q).t _ _ s, RepVs.mono (Stp.mo r1 q) _ r⟩
  refine ⟨fun h H i q _ _ hi => ?_, fun h H i v H' q rh _ hi y => ?_, fun h H q _ _ => ⟨vs, (up h H q).1, by rw [← r.length]; exact Nat.le_refl _⟩⟩
  · obtain ⟨w, ew, _⟩ := P2.get r.pair (List.getElem?_eq_getElem hi)
    exact ⟨vs, w, (up h H q).1, ew⟩
  · obtain ⟨rfl, y⟩ := y
    obtain ⟨d, ed, rd⟩ := P2.get' (up _ _ q).2.pair (y vs (up _ _ q).1)
    exact ⟨d, ed, rd, Stp.refl, rh⟩
theorem src_rol {H1 : Hp} {h1 : MH} {a : Addr} {xs : List D} {vs : List V} (r1 : RepH K h1 H1) (s : ROL K H1 a vs) (r : RepVs K H1 xs vs) : SrcOk K (Itl K.F a) xs (fun _ => True) h1 H1 := by
  have up : ∀ h H, Stp h1 H1 h H → SqL K.F H a vs ∧ RepVs K H xs vs := fun h H q => ⟨((Stp.mo r1 q).l _ _ s).sq, RepVs.mono (Stp.mo r1 q) _ r⟩
  refine ⟨fun h H i q _ _ hi => ?_, fun h H i v H' q rh _ hi y => ?_, fun h H q _ _ => ⟨vs, (up h H q).1, by rw [← r.length]; exact Nat.le_refl _⟩⟩
  · obtain ⟨w, ew, _⟩ := P2.get r.pair (List.getElem?_eq_getElem hi)
    exact ⟨vs, w, (up h H q).1, ew⟩
  · obtain ⟨rfl, y⟩ := y
    obtain ⟨d, ed, rd⟩ := P2.get' (up _ _ q).2.pair (y vs (up _ _ q).1)
    exact ⟨d, ed, rd, Stp.refl, rh⟩
theorem src_lst {H1 : Hp} {h1 : MH} {a : Addr} {xs : List D} : SrcOk K (Itl K.F a) xs (stabO a xs) h1 H1 := by
  refine ⟨fun h H i _ rh st hi => ?_, fun h H i v H' _ rh st hi y => ?_, fun h H _ rh st => ?_⟩
  · obtain ⟨vs, e, r⟩ := rh a _ st
    obtain ⟨w, ew, _⟩ := P2.get r.pair (List.getElem?_eq_getElem hi)
    exact ⟨vs, w, SqL.of e, ew⟩
  · obtain ⟨vs, e, r⟩ := rh a _ st
    obtain ⟨rfl, y⟩ := y
    obtain ⟨d, ed, rd⟩ := P2.get' r.pair (y vs (SqL.of e))
    exact ⟨d, ed, rd, Stp.refl, rh⟩
  · obtain ⟨vs, e, r⟩ := rh a _ st
    exact ⟨vs, SqL.of e, by rw [← r.length]; exact Nat.le_refl _⟩
theorem src_str {H1 : Hp} {h1 : MH} {z : Str} (ok : okS z) : SrcOk K (Its z) (signs z) (fun _ => True) h1 H1 := by
  have len : (signs z).length = z.cps.size := by unfold signs; rw [List.length_map, Array.length_toList]
  refine ⟨fun h H i _ _ _ hi => ?_, fun h H i v H' _ rh _ hi y => ?_, fun h H _ _ _ => ?_⟩
  · show i < z.cps.size
    rw [← len]; exact hi
  · obtain ⟨rfl, c, ec, rfl⟩ := y
    refine ⟨.str ⟨#[c]⟩, ?_, ⟨rfl, ?_⟩, Stp.refl, rh⟩
    · unfold signs
      rw [List.getElem?_map, Array.getElem?_toList, ec]; rfl
    · refine ⟨by show 1 ≤ sizeLine; decide, ?_⟩
      have o := ok.2
      unfold PyData.strOk at o ⊢
      rw [Array.all_eq_true] at o
      obtain ⟨hlt, e⟩ := Array.getElem?_eq_some_iff.mp ec
      have := o i hlt
      rw [e] at this
      rw [← Array.all_toList, List.all_cons, List.all_nil, Bool.and_true]; exact this
  · show z.cps.size ≤ (signs z).length
    rw [len]; exact Nat.le_refl _
def rgD (lo : Int) (n : Nat) : List D := (List.range n).map fun i => .int (lo + (i : Nat))
theorem src_rng {H1 : Hp} {h1 : MH} {lo : Int} {n : Nat} : SrcOk K (Itr lo n) (rgD lo n) (fun _ => True) h1 H1 := by
  have len : (rgD lo n).length = n := by unfold rgD; rw [List.length_map, List.length_range]
  refine ⟨fun h H i _ _ _ hi => ?_, fun h H i v H' _ rh _ hi y => ?_, fun h H _ _ _ => ?_⟩
  · show i < n
    rw [← len]; exact hi
  · obtain ⟨rfl, rfl⟩ := y
    rw [len] at hi
    refine ⟨.int (lo + (i : Nat)), ?_, rfl, Stp.refl, rh⟩
    unfold rgD
    rw [List.getElem?_map, List.getElem?_range hi]; rfl
  · show n ≤ (rgD lo n).length
    rw [len]; exact Nat.le_refl _
end
section
variable {X : Cx}
theorem di_seq {tg e : Expr} {t : E1} (he : DE X e t) : DI X tg e (iSeq t) := by
  refine ⟨fun pins s σV H R I ⟨σ, h, Q, hE, hH, ht, hc⟩ => ?_⟩
  refine thn (he.run pins s σV H (fun v H' => ∃ d h', Stp h H h' H' ∧ RepH X.kw h' H' ∧ RepV X.kw H' d v ∧ srcD d h' Q) I ⟨σ, h, _, hE, hH, ht, fun d h' v H' s' r' rv q => ⟨d, h', s', r', rv, q⟩⟩) fun u s1 ⟨v, H1, I1, r1, d, h1, st1, rh1, rv, q⟩ => ?_
  cases d with
  | tup xs =>
    obtain ⟨a, vs, rfl, sq, rr⟩ := rv
    cases r1
    obtain ⟨its, _, tp, _⟩ := I1.tuple sq
    refine wpAny_pyIter_tuple (show s1.heap.IsTuple a its.toArray from tp) (pi_one (tk := s1.toks) I1 _ (turn_tuple a _) ?_ (hc _ _ _ _ _ st1 rh1 (src_tup rh1 sq rr) q))
    exact ⟨_, Heap.get?_push_size _ rfl, rfl, rfl⟩
  | rol xs =>
    obtain ⟨a, vs, rfl, sq, rr⟩ := rv
    cases r1
    obtain ⟨its, _, tp, _⟩ := I1.list sq.sq
    refine wpAny_pyIter_list tp.isList (pi_one (tk := s1.toks) I1 _ (turn_list a _) ?_ (hc _ _ _ _ _ st1 rh1 (src_rol rh1 sq rr) q))
    exact ⟨_, Heap.get?_push_size _ rfl, rfl, rfl⟩
  | ref a =>
    cases (show v = _ from rv)
    cases r1
    have q : srcO a h1 Q (h1 a) := q
    cases e : h1 a with
    | none => rw [e] at q; exact q.elim
    | some o =>
      cases o with
      | lst xs =>
        rw [e] at q
        obtain ⟨vs, eH, rr⟩ := rh1 a _ e
        obtain ⟨its, _, tp, _⟩ := I1.list (SqL.of eH)
        refine wpAny_pyIter_list tp.isList (pi_one (tk := s1.toks) I1 _ (turn_list a _) ?_ (hc _ _ _ _ _ st1 rh1 src_lst q))
        exact ⟨_, Heap.get?_push_size _ rfl, rfl, rfl⟩
      | dic _ => rw [e] at q; exact q.elim
      | ins _ _ => rw [e] at q; exact q.elim
  | str z =>
    obtain ⟨rfl, ok⟩ := rv
    obtain ⟨t, rfl⟩ := r1
    have fin : R (Its z) H1 := hc _ _ _ _ _ st1 rh1 (src_str ok) q
    cases ha : z.cps.all (· < 128)
    · refine wpAny_pyIter_wide ha (pi_one (tk := s1.toks) I1 _ (turn_str _ z t "str_iterator" (.inr rfl)) ?_ fin)
      exact ⟨_, Heap.get?_push_size _ rfl, rfl, rfl⟩
    · refine wpAny_pyIter_ascii ha (pi_one (tk := s1.toks) I1 _ (turn_str _ z t "str_ascii_iterator" (.inl rfl)) ?_ fin)
      exact ⟨_, Heap.get?_push_size _ rfl, rfl, rfl⟩
  | _ => exact q.elim
def rg1 (ds : List D) (h : MH) (Q : List D → (MH → Prop) → MH → Prop) : Prop := match ds with
  | [.int j] => (-(2 ^ 62) ≤ j ∧ j < 2 ^ 62) ∧ Q (rgD 0 j.toNat) (fun _ => True) h
  | _ => False
def iRg1 (ta : A1) : I1 := fun σ h Q => ta σ h fun ds h1 => rg1 ds h1 Q
theorem rg1_inv {ds : List D} {h : MH} {Q : List D → (MH → Prop) → MH → Prop} (q : rg1 ds h Q) : ∃ j, ds = [.int j] ∧ (-(2 ^ 62) ≤ j ∧ j < 2 ^ 62) ∧ Q (rgD 0 j.toNat) (fun _ => True) h := by
  unfold rg1 at q
  split at q
  · exact ⟨_, rfl, q.1, q.2⟩
  · exact q.elim
theorem di_range1 {tg a : Expr} {ta : A1} {p pos : Pos} (hg : Gl X "range") (hm : X.mg "range" = none) (ha : DA X [a] ta) (hs : starEach [a] X.env = [(false, eval a X.env)] := by rfl) : DI X tg (.Call (.Name "range" p) [a] [] pos) (iRg1 ta) :=
  weakI (pi_range1 hg hm ha hs) fun σV H R ⟨σ, h, Q, hE, hH, ht, hc⟩ => ⟨σ, h, _, hE, hH, ht, fun ds h' vs H' s' r' rv q => by
    obtain ⟨j, rfl, b, q⟩ := rg1_inv q
    obtain ⟨v, r, rfl, r1, r2⟩ := rv
    cases (show v = _ from r1)
    cases (show r = [] from r2)
    exact ⟨j, rfl, b.1, b.2, hc _ _ _ _ _ s' r' src_rng q⟩⟩
def rg2 (ds : List D) (h : MH) (Q : List D → (MH → Prop) → MH → Prop) : Prop := match ds with
  | [.int i, .int j] => (-(2 ^ 62) ≤ i ∧ i < 2 ^ 62 ∧ -(2 ^ 62) ≤ j ∧ j < 2 ^ 62) ∧ Q (rgD i (j - i).toNat) (fun _ => True) h
  | _ => False
def iRg2 (ta : A1) : I1 := fun σ h Q => ta σ h fun ds h1 => rg2 ds h1 Q
theorem rg2_inv {ds : List D} {h : MH} {Q : List D → (MH → Prop) → MH → Prop} (q : rg2 ds h Q) : ∃ i j, ds = [.int i, .int j] ∧ (-(2 ^ 62) ≤ i ∧ i < 2 ^ 62 ∧ -(2 ^ 62) ≤ j ∧ j < 2 ^ 62) ∧ Q (rgD i (j - i).toNat) (fun _ => True) h := by
  unfold rg2 at q
  split at q
  · exact ⟨_, _, rfl, q.1, q.2⟩
  · exact q.elim
theorem di_range2 {tg a b : Expr} {ta : A1} {p pos : Pos} (hg : Gl X "range") (hm : X.mg "range" = none) (ha : DA X [a, b] ta) (hs : starEach [a, b] X.env = [(false, eval a X.env), (false, eval b X.env)] := by rfl) (hs2 : starEach [b] X.env = [(false, eval b X.env)] := by rfl) : DI X tg (.Call (.Name "range" p) [a, b] [] pos) (iRg2 ta) :=
  weakI (pi_range2 hg hm ha hs hs2) fun σV H R ⟨σ, h, Q, hE, hH, ht, hc⟩ => ⟨σ, h, _, hE, hH, ht, fun ds h' vs H' s' r' rv q => by
    obtain ⟨i, j, rfl, b, q⟩ := rg2_inv q
    obtain ⟨v, r, rfl, r1, v2, r2, rfl, r3, r4⟩ := rv
    cases (show v = _ from r1)
    cases (show v2 = _ from r3)
    cases (show r2 = [] from r4)
    exact ⟨i, j, rfl, b, hc _ _ _ _ _ s' r' src_rng q⟩⟩
/-! ### loops -/
/-- at less than what stands -/
def Lw (I : Sl → MH → Prop) : Sl → MH → Prop := fun σ h => ∃ σ0 h0, leS σ0 σ ∧ le h0 h ∧ I σ0 h0
theorem Lw.of {I : Sl → MH → Prop} {σ : Sl} {h : MH} (q : I σ h) : Lw I σ h := ⟨σ, h, leS.refl, le.refl, q⟩
def dWhile (c : T1) (tb : S1) : S1 := fun D σ h => ∃ I : Nat → Sl → MH → Prop, (∃ m, Lw (I m) σ h) ∧ ∀ m σ h, I m σ h → c σ h fun b h1 =>
  if b = true then tb { D with nx := fun σ' h' => ∃ m', m' < m ∧ Lw (I m') σ' h', ct := fun σ' h' => ∃ m', m' < m ∧ Lw (I m') σ' h', bk := D.nx } σ h1 else D.nx σ h1
theorem ds_while {c : Expr} {body : List Stmt} {tc : T1} {tb : S1} {pos : Pos} (hp : PassesOwn (model X.prog X.w) X.A X.env X.xe) (hc : DT X c tc) (hb : DSs X body tb) : DS X (.While c body [] pos) (dWhile tc tb) :=
  weakS (ps_while hp hc hb) fun DV σV H ⟨D, σ, h, hE, hH, ⟨I, ⟨m0, σ0, h0, w1, w2, i0⟩, turn⟩, hcl⟩ => by
    refine ⟨fun m σV' H' => ∃ σ' h', Stp h H h' H' ∧ RepE X.kw H' σ' σV' ∧ RepH X.kw h' H' ∧ I m σ' h', ⟨m0, σ0, h0, Stp.low Stp.refl w2, hE.low w1, hH.low w2, i0⟩, ?_⟩
    rintro m σV1 H1 ⟨σ1, h1, s1, e1, r1, i1⟩
    refine ⟨σ1, h1, _, e1, r1, turn m σ1 h1 i1, fun b h2 H2 s2 r2 q => ?_⟩
    have e2 := e1.mono (Stp.mo r1 s2)
    cases b with
    | false =>
      rw [if_neg Bool.false_ne_true] at q
      exact iteF (hcl.nx _ _ _ _ (s1.trans s2) e2 r2 q)
    | true =>
      rw [if_pos rfl] at q
      refine iteT ?_
      refine ⟨fun σV' H' => ∃ m', m' < m ∧ ∃ σ' h', Stp h H h' H' ∧ RepE X.kw H' σ' σV' ∧ RepH X.kw h' H' ∧ I m' σ' h', fun σ' H' z => z, ?_⟩
      have back : ClN X.kw h2 H2 (fun σ' h' => ∃ m', m' < m ∧ Lw (I m') σ' h') fun σV' H' => ∃ m', m' < m ∧ ∃ σ' h', Stp h H h' H' ∧ RepE X.kw H' σ' σV' ∧ RepH X.kw h' H' ∧ I m' σ' h' := fun σ' h' σV' H' s' e' r' ⟨m', hm, σ0, h0, w1, w2, i0⟩ =>
        ⟨m', hm, σ0, h0, ((s1.trans s2).trans s').low w2, e'.low w1, r'.low w2, i0⟩
      exact ⟨_, σ1, h2, e2, r2, q, ⟨back, (hcl.rt.step (s1.trans s2)), hcl.nx.step (s1.trans s2), back⟩⟩
def dFor (it : I1) (g : G1) (tb : S1) : S1 := fun D σ h => it σ h fun xs stab h1 => ∃ I : Nat → Sl → MH → Prop, Lw (I 0) σ h1 ∧ (∀ i σ h, I i σ h → stab h) ∧
  (∀ i x σ h, xs[i]? = some x → I i σ h → g x σ h fun σ2 h2 => tb { D with nx := Lw (I (i + 1)), ct := Lw (I (i + 1)), bk := D.nx } σ2 h2) ∧ ∀ σ h, I xs.length σ h → D.nx σ h
theorem ds_for {tg iter : Expr} {body : List Stmt} {wi : I1} {g : G1} {tb : S1} {pos : Pos} (hp : PassesOwn (model X.prog X.w) X.A X.env X.xe) (hc : X.calm = true) (hi : DI X tg iter wi) (hg : DG X P0 tg g) (hb : DSs X body tb)
    (hs : ∀ x, foldedSetIterable iter X.env x = pure x := by intro _; rfl) : DS X (.For tg iter body [] pos) (dFor wi g tb) :=
  weakS (ps_for hp hc hi hg hb hs) fun DV σV H ⟨D, σ, h, hE, hH, ht, hcl⟩ => by
    refine ⟨σ, h, _, hE, hH, ht, fun xs stab h1 J H1 s1 r1 so ⟨I, ⟨σ0, h0, w1, w2, i0⟩, st, turn, fin⟩ => ?_⟩
    have e1 := hE.mono (Stp.mo hH s1)
    refine ⟨fun i m σV' H' => m = xs.length - i ∧ i ≤ xs.length ∧ ∃ σ' h', Stp h1 H1 h' H' ∧ RepE X.kw H' σ' σV' ∧ RepH X.kw h' H' ∧ I i σ' h', ⟨xs.length, rfl, Nat.zero_le _, σ0, h0, Stp.low Stp.refl w2, e1.low w1, r1.low w2, i0⟩, ?_⟩
    rintro i m σV2 H2 ⟨rfl, hi, σ2, h2, s2, e2, r2, i2⟩
    by_cases lt : i < xs.length
    · refine .inr ⟨so.go h2 H2 i s2 r2 (st _ _ _ i2) lt, fun σV' H' => ∃ σ' h', Stp h1 H1 h' H' ∧ RepE X.kw H' σ' σV' ∧ RepH X.kw h' H' ∧ I (i + 1) σ' h', fun σ' H' z => ⟨xs.length - (i + 1), by omega, rfl, lt, z⟩, fun v H3 y => ?_⟩
      obtain ⟨d, ed, rd, s3, r3⟩ := so.yl h2 H2 i v H3 s2 r2 (st _ _ _ i2) lt y
      refine ⟨d, σ2, h2, _, rd, e2.mono (Stp.mo r2 s3), r3, turn i d σ2 h2 ed i2, fun σ4 h4 σV4 H4 _ s4 e4 r4 q4 => ?_⟩
      have back : ClN X.kw h4 H4 (Lw (I (i + 1))) fun σV' H' => ∃ σ' h', Stp h1 H1 h' H' ∧ RepE X.kw H' σ' σV' ∧ RepH X.kw h' H' ∧ I (i + 1) σ' h' := fun σ' h' σV' H' s' e' r' ⟨σ0, h0, w1, w2, i0⟩ =>
        ⟨σ0, h0, ((s2.trans (s3.trans s4)).trans s').low w2, e'.low w1, r'.low w2, i0⟩
      have all := s1.trans (s2.trans (s3.trans s4))
      exact ⟨_, σ4, h4, e4, r4, q4, ⟨back, hcl.rt.step all, hcl.nx.step all, back⟩⟩
    · have e : i = xs.length := by omega
      subst e
      exact .inl ⟨so.st h2 H2 s2 r2 (st _ _ _ i2), hcl.nx _ _ _ _ (s1.trans s2) e2 r2 (fin σ2 h2 i2)⟩
/-! ### comprehensions -/
def wipeD (σ : Sl) : List Nat → Sl
  | [] => σ
  | v :: vs => put (wipeD σ vs) v none
theorem wipeD_len (σ : Sl) : ∀ vs, (wipeD σ vs).length = σ.length
  | [] => rfl
  | v :: vs => by show (put _ v none).length = _; rw [put_len, wipeD_len σ vs]
theorem wipeD_nth {σ : Sl} {j : Nat} {e : D} : ∀ {vs : List Nat}, nth (wipeD σ vs) j = some e → nth σ j = some e ∧ j ∉ vs
  | [], h => ⟨h, by simp⟩
  | v :: vs, h => by
    rcases nth_put _ v j none h with ⟨_, q⟩ | ⟨n, q⟩
    · cases q
    · obtain ⟨a, b⟩ := wipeD_nth q
      exact ⟨a, by simp [n, b]⟩
theorem wipe_at {σ : L2.St} {j : Nat} : ∀ {vs : List Nat}, j ∉ vs → (wipe σ vs)[j]? = σ[j]?
  | [], _ => rfl
  | v :: vs, h => by
    rw [List.mem_cons, not_or] at h
    show ((wipe σ vs).set v none)[j]? = _
    rw [List.getElem?_set_ne (Ne.symm h.1), wipe_at h.2]
theorem RepE.wipe {K : KW} {H : Hp} {σ : Sl} {σV : L2.St} (r : RepE K H σ σV) (vs : List Nat) : RepE K H (wipeD σ vs) (L2.wipe σV vs) := by
  refine ⟨by rw [wipeD_len, wipe_length]; exact r.len, fun i d e => ?_⟩
  obtain ⟨a, b⟩ := wipeD_nth e
  obtain ⟨v, x, y⟩ := r.val i d a
  exact ⟨v, by rw [wipe_at b]; exact x, y⟩
theorem wipe_wipe {σ : L2.St} : ∀ {vs : List Nat} (ws : List Nat), (∀ v ∈ vs, v ∈ ws) → L2.wipe (L2.wipe σ vs) ws = L2.wipe σ ws
  | [], _, _ => rfl
  | v :: vs, ws, h => by
    show L2.wipe ((L2.wipe σ vs).set v none) ws = _
    rw [wipe_put ws _ (h v (by simp)), wipe_wipe ws fun u hu => h u (by simp [hu])]
def dLc (it : I1) (g : G1) (tt : T1) (te : E1) (vs : List Nat) : E1 := fun σ h Q => it σ h fun xs stab h1 => xs.length ≤ sizeLine ∧ ∃ I : Nat → List D → MH → Prop, (∃ h0, le h0 h1 ∧ I 0 [] h0) ∧ (∀ i a h, I i a h → stab h) ∧
  (∀ i x a h, xs[i]? = some x → I i a h → g x (wipeD σ vs) h fun σ2 h2 => tt σ2 h2 fun b h3 => if b = true then te σ2 h3 fun y h4 => ∃ h5, le h5 h4 ∧ I (i + 1) (a ++ [y]) h5 else ∃ h5, le h5 h3 ∧ I (i + 1) a h5) ∧
  ∀ a h, I xs.length a h → ∀ p, h p = none → Q (.ref p) (up h p (.lst a))
abbrev DTs (X : Cx) (ifs : List Expr) (t : T1) : Prop := PTs X ifs (lowT X.kw t)
def dYes : T1 := fun _ h Q => Q true h
theorem dts_nil : DTs X [] dYes := ⟨fun pins s σV H QV I ⟨σ, h, Q, hE, hH, ht, hc⟩ => pts_nil.run pins s σV H QV I (hc true h H Stp.refl hH ht)⟩
theorem dts_one {c : Expr} {t : T1} (h : DT X c t) : DTs X [c] t := pts_one h
theorem low_lc {K : KW} {it : I1} {g : G1} {tt : T1} {te : E1} {vs : List Nat} {σV : L2.St} {H : Hp} {QV : VK} (q : lowE K (dLc it g tt te vs) σV H QV) :
    tLc (lowI K it) (lowG K (Pw vs) g) (lowT K tt) (lowE K te) vs σV H QV := by
  obtain ⟨σ, h, Q, hE, hH, ht, hc⟩ := q
  refine ⟨σ, h, _, hE, hH, ht, fun xs stab h1 J H1 s1 r1 so ⟨hz, I, ⟨h0, w0, i0⟩, st, turn, fin⟩ A nA => ?_⟩
  have e1 := (hE.mono (Stp.mo hH s1)).wipe vs
  have h0A : h0 A = none := by
    cases z : h0 A with
    | none => rfl
    | some u => have := w0 A u z; rw [r1.nofresh nA] at this; cases this
  refine ⟨fun i m H' => m = xs.length - i ∧ i ≤ xs.length ∧ ∃ a av h', H' A = some (.lst av) ∧ RepVs K H' a av ∧ a.length ≤ i ∧ Stp h1 H1 h' H' ∧ RepH K h' H' ∧ h' A = none ∧ RepE K H' (wipeD σ vs) (L2.wipe σV vs) ∧ I i a h', ⟨xs.length, rfl, Nat.zero_le _, [], [], h0, upd_same, rfl, Nat.zero_le _, ?_, ?_, h0A, ?_, i0⟩, ?_⟩
  · exact (Stp.hide nA).low w0
  · exact (r1.hide nA).low w0
  · exact e1.mono (Stp.mo r1 (Stp.hide nA))
  rintro i m H2 ⟨rfl, hi, a, av, h2, eA, ra, la, s2, r2, hA, e2, i2⟩
  by_cases lt : i < xs.length
  · refine .inr ⟨so.go h2 H2 i s2 r2 (st _ _ _ i2) lt, fun H' => ∃ a av h', H' A = some (.lst av) ∧ RepVs K H' a av ∧ a.length ≤ i + 1 ∧ Stp h1 H1 h' H' ∧ RepH K h' H' ∧ h' A = none ∧ RepE K H' (wipeD σ vs) (L2.wipe σV vs) ∧ I (i + 1) a h', fun H' z => ⟨xs.length - (i + 1), by omega, rfl, lt, z⟩, fun v H3 y => ?_⟩
    obtain ⟨d, ed, rd, s3, r3⟩ := so.yl h2 H2 i v H3 s2 r2 (st _ _ _ i2) lt y
    refine ⟨d, wipeD σ vs, h2, _, rd, e2.mono (Stp.mo r2 s3), r3, turn i d a h2 ed i2, fun σ4 h4 σV4 H4 p4 s4 e4 r4 q4 => ⟨?_, ?_⟩⟩
    · have p4 : L2.wipe σV4 vs = L2.wipe (L2.wipe σV vs) vs := p4
      rw [p4, wipe_wipe vs fun _ z => z]
    refine ⟨σ4, h4, _, e4, r4, q4, fun b h5 H5 s5 r5 q5 => ?_⟩
    have s35 := s3.trans (s4.trans s5)
    have m35 := Stp.mo r2 s35
    obtain ⟨hA5, eA5⟩ := s35 A _ hA eA
    cases b with
    | false =>
      rw [if_neg Bool.false_ne_true] at q5
      refine iteF ?_
      obtain ⟨h6, w6, i6⟩ := q5
      refine ⟨a, av, h6, eA5, RepVs.mono m35 _ ra, by omega, (s2.trans s35).low w6, r5.low w6, ?_, e2.mono m35, i6⟩
      cases z : h6 A with
      | none => rfl
      | some u => have := w6 A u z; rw [hA5] at this; cases this
    | true =>
      rw [if_pos rfl] at q5
      refine iteT ?_
      refine ⟨σ4, h5, _, e4.mono (Stp.mo r4 s5), r5, q5, fun y h6 yv H6 s6 r6 ry ⟨h7, w7, i7⟩ => ?_⟩
      have s36 := s35.trans s6
      have m36 := Stp.mo r2 s36
      obtain ⟨hA6, eA6⟩ := s36 A _ hA eA
      have hA7 : h7 A = none := by
        cases z : h7 A with
        | none => rfl
        | some u => have := w7 A u z; rw [hA6] at this; cases this
      -- the new list is hidden: its growth is seen by nobody
      have ne : ∀ c u, H6 c = some u → h6 c = none → c ≠ A → upd H6 A (.lst (av ++ [yv])) c = some u := fun c u e _ n => by rw [upd_ne n]; exact e
      have mo7 : Mo K H6 (upd H6 A (.lst (av ++ [yv]))) := by
        refine ⟨fun c ys q => ?_, fun c ys q => ?_⟩
        · rcases q with (q | ⟨o, q⟩) | q
          · exact .inl (.inl (by rw [upd_ne (ne_of q eA6 (by intro z; cases z))]; exact q))
          · exact .inl (.inr ⟨o, by rw [upd_ne (ne_of q eA6 (by intro z; cases z))]; exact q⟩)
          · exact .inr q
        · rcases q with ⟨o, q⟩ | q
          · exact .inl ⟨o, by rw [upd_ne (ne_of q eA6 (by intro z; cases z))]; exact q⟩
          · exact .inr q
      have r7 : RepH K h7 (upd H6 A (.lst (av ++ [yv]))) := fun c u e => by
        have nc : c ≠ A := fun z => by rw [z, hA7] at e; cases e
        exact (r6 c u (w7 c u e)).mono mo7 fun x f => by rw [upd_ne nc]; exact f
      refine ⟨av, eA6, ?_, a ++ [y], av ++ [yv], h7, upd_same, RepVs.mono mo7 _ (.of (P2.append (RepVs.mono m36 _ ra).pair (.cons ry .nil))), by rw [List.length_append, List.length_singleton]; omega, ?_, r7, hA7, (e2.mono m36).mono mo7, i7⟩
      · rw [← (RepVs.mono m36 _ ra).length]
        omega
      · intro c u e f
        obtain ⟨x1, x2⟩ := ((s2.trans s36).low w7) c u e f
        have nc : c ≠ A := fun z => by rw [z, nA] at f; cases f
        exact ⟨x1, by rw [upd_ne nc]; exact x2⟩
  · have e : i = xs.length := by omega
    subst e
    refine .inl ⟨so.st h2 H2 s2 r2 (st _ _ _ i2), ?_⟩
    have fq := fin a h2 i2 A hA
    refine hc (.ref A) (up h2 A (.lst a)) (.ref A) H2 ?_ ?_ rfl fq
    · intro c u x y
      obtain ⟨x1, y1⟩ := s1 c u x y
      have nc : c ≠ A := fun z => by rw [z, nA] at y1; cases y1
      obtain ⟨x2, y2⟩ := s2 c u x1 y1
      exact ⟨by rw [up_ne nc]; exact x2, y2⟩
    · intro c u x
      by_cases z : c = A
      · subst z
        rw [up_same] at x; cases x
        exact ⟨av, eA, ra⟩
      · rw [up_ne z] at x
        exact r2 c u x
theorem de_lc {elt tg iter : Expr} {ifs : List Expr} {scope : Scope} {own : List (Str × Nat)} {pos : Pos} {wi : I1} {g : G1} {tt : T1} {te : E1} (hc : X.calm = true) (hN : X.N.Nodup) (hi : DI X tg iter wi) (ok : BlkOk X.N X.env.scope scope own)
    (hg : ∀ (s : Shared) (H : Hp) (C : Addr) (cl : List (Str × Addr)) (fp : List Addr), DG (X.blk s H scope (compEnvC scope cl C X.env) fp) (Pw (own.map (·.2))) tg g) (ht : ∀ (s : Shared) (H : Hp) (C : Addr) (cl : List (Str × Addr)) (fp : List Addr), DTs (X.blk s H scope (compEnvC scope cl C X.env) fp) ifs tt)
    (he : ∀ (s : Shared) (H : Hp) (C : Addr) (cl : List (Str × Addr)) (fp : List Addr), DE (X.blk s H scope (compEnvC scope cl C X.env) fp) elt te) (hs : ∀ x, foldedSetIterable iter X.env x = pure x := by intro _; rfl) :
    DE X (.ListComp elt [⟨tg, iter, ifs, 0⟩] scope pos) (dLc wi g tt te (own.map (·.2))) := weakE (pe_lc hc hN hi ok hg ht he hs) fun _ _ _ q => low_lc q
theorem ds_setLc (i : Nat) {y : Str} {py : Pos} {elt tg iter : Expr} {ifs : List Expr} {scope : Scope} {own : List (Str × Nat)} {pos spos : Pos} {wi : I1} {g : G1} {tt : T1} {te : E1} (hc : X.calm = true) (hN : X.N.Nodup) (hy : X.N[i]? = some y) (hyl : X.env.scope.names.lookup y = some .local)
    (hsw : swapsWith (.ListComp elt [⟨tg, iter, ifs, 0⟩] scope pos) (some (.Name y py)) spos.line X.env = pure true) (hi : DI X tg iter wi) (ok : BlkOk X.N X.env.scope scope own)
    (hg : ∀ (s : Shared) (H : Hp) (C : Addr) (cl : List (Str × Addr)) (fp : List Addr), DG (X.blk s H scope (compEnvC scope cl C X.env) fp) (Pw (own.map (·.2))) tg g) (ht : ∀ (s : Shared) (H : Hp) (C : Addr) (cl : List (Str × Addr)) (fp : List Addr), DTs (X.blk s H scope (compEnvC scope cl C X.env) fp) ifs tt)
    (he : ∀ (s : Shared) (H : Hp) (C : Addr) (cl : List (Str × Addr)) (fp : List Addr), DE (X.blk s H scope (compEnvC scope cl C X.env) fp) elt te) (hs : ∀ x, foldedSetIterable iter X.env x = pure x := by intro _; rfl) :
    DS X (.Assign [.Name y py] (.ListComp elt [⟨tg, iter, ifs, 0⟩] scope pos) spos) (dAsg (dLc wi g tt te (own.map (·.2))) (gN i)) :=
  weakS (ps_setLc (i := i) hc hN hy hyl hsw hi ok hg ht he hs) fun DV σV H ⟨D, σ, h, hE, hH, ht, hcl⟩ => low_lc ⟨σ, h, _, hE, hH, ht, fun d h' v H' s' r' rv q => hcl.nx _ h' _ H' s' ((hE.mono (Stp.mo hH s')).put rv) r' q⟩
end
end DL
namespace DL
open PySem PySem.Spec PyProof.Rows L2
/-! ### promises of defs that are called where nothing is being shown (repr asks that) -/
structure RoomG (k : Nat) (A : Around) : Prop where
  r : Room k A
  g : A.guards = some []
theorem RoomG.mono {j k : Nat} {A : Around} (q : RoomG k A) (h : j ≤ k) : RoomG j A := ⟨q.r.mono h, q.g⟩
theorem RoomG.deeper {k : Nat} {A : Around} (q : RoomG (k + 1) A) (e : Env) : RoomG k (A.deeper e) := ⟨q.r.deeper e, q.g⟩
structure FnG (P : Program) (w : World) (K : PySem.W.Frag) (mg : Str → Option Value) (base : Heap) (k : Nat) (f : Addr) (fd : FuncData) (ps : List Str) (sp : Sp) : Prop where
  len : ∀ vs H Q E, sp vs H Q E → vs.length = ps.length
  run : ∀ (A : Around) (outer : List Env) (s : Shared) (H : Hp) (args : Args) (us : List Value) (vs : List V) (Q : VK) (E : XK), RoomG k A → Env0 P w K mg base A outer s H → BindsTo s fd args (ps.zip us) → Vals vs us → sp vs H Q E → codeAny (model P w) A (.call (.ref f) args) (CR CX0 outer P w H s Q E) s
section
variable {P : Program} {w : World} {K : PySem.W.Frag} {mg : Str → Option Value} {base : Heap} {j k : Nat} {f : Addr} {fd : FuncData} {ps : List Str} {sp sp' : Sp}
theorem FnG.mono (F : FnG P w K mg base j f fd ps sp) (h : j ≤ k) : FnG P w K mg base k f fd ps sp := ⟨F.len, fun A o s H a us vs Q E q => F.run A o s H a us vs Q E (q.mono h)⟩
theorem FnG.imp (F : FnG P w K mg base k f fd ps sp) (h : ∀ vs H Q E, sp' vs H Q E → sp vs H Q E) : FnG P w K mg base k f fd ps sp' := ⟨fun vs H Q E q => F.len vs H Q E (h _ _ _ _ q), fun A o s H a us vs Q E q e b v z => F.run A o s H a us vs Q E q e b v (h _ _ _ _ z)⟩
/-- a def by its body -/
theorem fng_of {x qual : Str} {st : Stmt} {N : List Str} (F : Fun K x qual st f fd) (S : FnScope N ps (defScope st)) (len : ∀ vs H Q E, sp vs H Q E → vs.length = ps.length)
    (hb : ∀ (cdv : Value) (A : Around) (outer : List Env) (s : Shared) (H : Hp) (vs : List V) (Q : VK) (E : XK), RoomG k (A.deeper (envOfC qual (defScope st) s.heap.objs.size f cdv)) → sp vs H Q E →
      ∃ t, PSs (cxOf CX0 P w K mg base N qual (defScope st) f cdv A outer s H E) (defBody st) t ∧ t { nx := fun _ H' => Q .non H', rt := Q } (start N vs) H) : FnG P w K mg base (k + 1) f fd ps sp := by
  obtain ⟨oc, od, kV, doc, pm, an, cdv, ct, osl, rfl, lk, hcd⟩ := F.ex
  refine ⟨len, fun A outer s H args us vs Q E q e0 bt rv hs => ?_⟩
  have len1 := len _ _ _ _ hs
  have Kin : K.In s.heap := e0.mod.kin.keeps fun b o e => (e0.bs b o e).1
  have noLim : s.heap.NoLimit := e0.mod.nolimit.keeps fun b o e => (e0.bs b o e).1
  have kinds : ∀ y ∈ ps.zip us, (defScope st).names.lookup y.1 = some .local ∨ ((defScope st).names.lookup y.1 = some .cell ∧ ((cellsFrom (s.heap.objs.size + 1) (defScope st).names []).lookup y.1).isSome = true) := fun ⟨n, v⟩ hy =>
    (S.par n (List.of_mem_zip hy).1).elim .inl fun z => .inr ⟨z, PySem.W.cellsFrom_some _ _ _ (.inl z)⟩
  refine codeAny_call_function q.r.depth (Kin _ _ lk) rfl S.co S.gen rfl (PySem.W.codeRec_of Kin hcd) (bt _ _ _ _ (wpAny_newFunctionEnv_cells S.kind kinds fun env he s1 x => ?_))
  subst he
  refine ⟨noLim.keeps x.toInCall.keep, codeAny_func ?_⟩
  obtain ⟨t, ht, hq⟩ := hb cdv A outer s H vs Q E (q.deeper _) hs
  have I0 : Inv (cxOf CX0 P w K mg base N qual (defScope st) f cdv A outer s H E) [] (start N vs) H s1 := inv_start S q.r.hd e0 len1 rv x
  refine wpAny_mono (ht.run [] s1 (start N vs) H _ I0 hq) (fun fl s' z => ?_) fun _ _ z => z
  have out : ∀ {σ' : L2.St} {H' : Hp} {v : V} {u : Value}, Inv (cxOf CX0 P w K mg base N qual (defScope st) f cdv A outer s H E) [] σ' H' s' → RelV v u → Q v H' → CE outer P w H s Q u s' := fun {_ H' v _} J rv y => ⟨v, H', J.os, J.bare, J.base, J.hok, rv, y⟩
  cases fl with
  | ret u => exact let ⟨_, _, _, J, rv, y⟩ := z; out J rv y
  | next => exact let ⟨_, _, J, y⟩ := z; out (v := V.non) (u := Value.none) J rfl y
  | brk => exact let ⟨_, _, _, y⟩ := z; y.elim
  | cont => exact let ⟨_, _, _, y⟩ := z; y.elim
end
section
variable {X : Cx} {k : Nat} {f : Addr} {fd : FuncData} {ps : List Str} {sp : Sp} {E : XK} {x : Str} {p pos : Pos} {e : Expr} {es : List Expr} {t : TA}
theorem run_g {pins : List (Addr × Obj)} {σ : L2.St} {H : Hp} {s : Shared} {Q : VK} {us : List Value} {vs : List V} (F : FnG X.prog X.w X.K X.mg X.base k f fd ps sp) (q : RoomG k X.A) (b : Binds X.K fd ps []) (hx : Passes CX0 X E)
    (I : Inv X pins σ H s) (r : Vals vs us) (h : sp vs H Q E) : wpAny (model X.prog X.w) X.A (call (.ref f) us) (EP X pins σ Q) X.xe s := by
  have hl : (us ++ []).length = ps.length := by rw [List.append_nil, ← r.length]; exact F.len _ _ _ _ h
  have bt := b s us I.kIn hl
  rw [List.append_nil] at bt
  refine wpAny_call (codeAny_mono (F.run X.A X.stack s H ⟨us, []⟩ us vs Q E q I.env0 bt r h) fun r s' z => ?_)
  match r, z with
  | .error e, z => exact hx pins σ H s e s' I z
  | .ok (.ret u), z => exact I.after z
  | .ok .next, z => exact False.elim z
  | .ok .brk, z => exact False.elim z
  | .ok .cont, z => exact False.elim z
def tCallG (sp : Sp) (E : XK) (t : TA) : TE := fun σ H Q => t σ H fun vs H1 => sp vs H1 Q E
theorem pe_callG (F : FnG X.prog X.w X.K X.mg X.base k f fd ps sp) (q : RoomG k X.A) (hg : Gl X x) (hm : X.mg x = some (.ref f)) (hk : PySem.W.keepIn X.K (.ref f) = true) (hb : Binds X.K fd ps []) (hx : Passes CX0 X E)
    (ha : PA X (e :: es) t) (hdb : (x == ("__debug__" : Str)) = false := by decide) (he : starEach (e :: es) X.env = (false, eval e X.env) :: starEach es X.env := by rfl) (hpl : (backTo pos (starEach es X.env)).any (·.1) = false := by rfl) :
    PE X (.Call (.Name x p) (e :: es) [] pos) (tCallG sp E t) := ⟨fun pins s σ H Q I h =>
  wpAny_Call_Name_kw (ld_glob I hg hm (PySem.W.callWith_K (h₀ := X.base) I.ok.mod.kin hk (thn (ha.run pos pins s σ H _ I h) fun us s1 ⟨vs, H1, I1, r, z⟩ => ⟨I1.kIn, run_g F q hb hx I1 r z⟩) he hpl) hdb)⟩
theorem pe_callG0 (F : FnG X.prog X.w X.K X.mg X.base k f fd ps sp) (q : RoomG k X.A) (hg : Gl X x) (hm : X.mg x = some (.ref f)) (hk : PySem.W.keepIn X.K (.ref f) = true) (hb : Binds X.K fd ps []) (hx : Passes CX0 X E)
    (hdb : (x == ("__debug__" : Str)) = false := by decide) : PE X (.Call (.Name x p) [] [] pos) (tCallG sp E tNil) := ⟨fun pins s σ H Q I h =>
  wpAny_Call_Name_kw (ld_glob I hg hm (PySem.W.callWith_K0 I.kIn hk (run_g (us := []) F q hb hx I .nil h)) hdb)⟩
end
/-- the law's own call -/
theorem law_callG {P : Program} {w : World} {K : PySem.W.Frag} {mg mb : Str → Option Value} {k : Nat} {fa a : Addr} {fd : FuncData} {x : Str} {sp : Sp} {s : Shared} {vs : List Value} {ns : List Int}
    (KX : K.In s.heap) (hns : s.heap.Ns mainGlobals mg) (hb : s.heap.Ns builtinsNs mb) (hbb : ∀ x : Str, x ≠ "__name__" → mb x = bootBuiltins x) (lim : s.heap.NoLimit) (hg : s.gens = #[])
    (ha : s.heap.get? a = some { cls := .type "list", data := .seq vs.toArray }) (hi : IntsAre vs ns) (hl : ns.length ≤ sizeLine) (hr : RoomG k callerA)
    (F : ∀ base : Heap, K.In base → base.Ns mainGlobals mg → FnG P w K mg base k fa fd [x] sp) (bt : ∀ (s : Shared) (u : Value), BindsTo s fd ⟨[u], []⟩ [(x, u)])
    (hsp : ∀ H : Hp, Only H → SqL K H a (ns.map V.int) → sp [.ref a] H (fun v _ => v = .bl true) fun _ _ _ => False) :
    codeAny (model P w) callerA (.call (.ref fa) ⟨[.ref a], []⟩) (fun r s' => r = .ok (.ret (.bool true)) ∧ OldK s.heap s'.heap ∧ s'.os = s.os ∧ AllBare s'.gens) s := by
  have rv := vals_ints hi
  have core : ∀ H : Hp, Only H → SqL K H a (ns.map V.int) → HOk P w H s.heap → (∀ b, H b ≠ none → b = a) → (H a ≠ none → K.lookup a = none) → codeAny (model P w) callerA (.call (.ref fa) ⟨[.ref a], []⟩) (fun r s' => r = .ok (.ret (.bool true)) ∧ OldK s.heap s'.heap ∧ s'.os = s.os ∧ AllBare s'.gens) s := fun H only sq ok at_ free => by
    have dictFree : ∀ {b : Addr} {o : Obj} {es : Array DictEntry} {ep : Nat}, s.heap.get? b = some o → o.data = .dict es ep → H b = none := fun {b o es ep} e d => Classical.byContradiction fun n => by
      cases at_ b n
      rw [ha] at e; cases e
      exact nomatch (show Data.seq vs.toArray _ = Data.dict es ep from d)
    have keepNs : ∀ {b : Addr} {m : Str → Option Value}, s.heap.Ns b m → (hidT s.heap H).Ns b m := fun {b m} ⟨o, es, ep, e, d, r⟩ => ⟨o, es, ep, hidT_get e (dictFree e d), d, r⟩
    have KB : K.In (hidT s.heap H) := fun b o e => hidT_get (KX b o e) (Classical.byContradiction fun n => by
      cases at_ b n
      rw [free n] at e; cases e)
    have e0 : Env0 P w K mg (hidT s.heap H) callerA [] s H := ⟨rfl, ⟨KB, keepNs hns, ⟨mb, keepNs hb, hbb⟩, let ⟨mc, z1, z2⟩ := lim; ⟨mc, keepNs z1, z2⟩⟩, fun b o e => of_hidT e, Nat.le_of_eq (hidT_size _ _), trivial, fun b z => absurd (show b ∈ ([] : List Addr) from z) (by simp), ok, .of_eq hg⟩
    refine codeAny_mono ((F _ KB (keepNs hns)).run callerA [] s H ⟨[.ref a], []⟩ [.ref a] [.ref a] _ _ hr e0 (bt s (.ref a)) (.cons rfl .nil) (hsp H only sq)) fun r s' z => ?_
    match r, z with
    | .error e, z => exact (show False from z).elim
    | .ok .next, z => exact False.elim z
    | .ok .brk, z => exact False.elim z
    | .ok .cont, z => exact False.elim z
    | .ok (.ret u), z =>
      obtain ⟨v, H', os, bare, un, ok', r', q⟩ := z
      cases (show v = .bl true from q)
      cases (show u = Value.bool true from r')
      refine ⟨rfl, OldK.of_keep fun b o e => ?_, os, bare⟩
      cases q : H b with
      | none => exact un.keep b o e q (fun z => absurd (show b ∈ ([] : List Addr) from z) (by simp)) (by simp)
      | some u =>
        rcases only b with z | ⟨ob, xs, z⟩
        · rw [q] at z; cases z
        · obtain ⟨e1, _⟩ := ok b _ z
          obtain ⟨e2, _⟩ := ok' b _ (un.frzs b ob _ z)
          rw [e] at e1; cases e1
          exact e2
  have size : vs.toArray.size ≤ sizeLine := by rw [List.size_toArray, hi.length]; exact hl
  cases hk : K.lookup a with
  | some o =>
    have e := KX a o hk
    rw [ha] at e; cases e
    exact core (fun _ => none) (fun _ => .inl rfl) (.inr ⟨_, vs.toArray, _, hk, rfl, rfl, rfl, size, by simpa using rv⟩) (fun _ _ z => nomatch z) (fun _ z => absurd rfl z) fun z => absurd rfl z
  | none =>
    have other : ∀ {b : Addr} {o : HO}, (fun c => if c = a then some o else (none : Option HO)) b ≠ none → b = a := fun {b o} z => Classical.byContradiction fun n => z (if_neg n)
    refine core (fun b => if b = a then some (.frz { cls := .type "list", data := .seq vs.toArray } (.lst (ns.map V.int))) else none) (fun b => ?_) (.inl (.inr ⟨_, if_pos rfl⟩)) (fun b u z => ?_) (fun _ z => other z) fun _ => hk
    · by_cases n : b = a
      · exact .inr ⟨_, _, if_pos n⟩
      · exact .inl (if_neg n)
    · cases other (b := b) (fun n => by rw [z] at n; cases n)
      cases (if_pos rfl).symm.trans z
      exact ⟨ha, by rw [List.length_map]; exact hl, vs, _, rv, ha⟩
theorem walk_ofG {l : PySem.W.OpenLaw} {n k : Nat} {q : Program} {loose : List Str} {XP : (Str → Option Value) → Heap → Prop} {YP : World → Heap → Prop} {d : DefRec} {K : Params → PySem.W.Frag} {sp : PySem.W.Frag → Sp} {x : Str}
    (hn : l.most = some n) (hn2 : n ≤ sizeLine) (hdf : d.params.defaults = []) (hr : RoomG k callerA) (hY : ∀ (w : World) (h : Heap), YP w h → (K w.params).In h)
    (F : ∀ (w : World) (mg : Str → Option Value) (fa : Addr) (h : Heap), (K w.params).In h → h.Ns mainGlobals mg → mg d.name = some (.ref fa) →
      ∃ fd : FuncData, (∀ (s : Shared) (u : Value), BindsTo s fd ⟨[u], []⟩ [(x, u)]) ∧ ∀ base : Heap, (K w.params).In base → base.Ns mainGlobals mg → FnG l.prog w (K w.params) mg base k fa fd [x] (sp (K w.params)))
    (hsp : ∀ (K : PySem.W.Frag) (H : Hp) (a : Addr) (ns : List Int), ns.length ≤ n → Only H → SqL K H a (ns.map V.int) → sp K [.ref a] H (fun v _ => v = .bl true) fun _ _ _ => False) :
    PySem.W.WalkO q loose XP YP l.row.toRowW d [] (fun f vs => PySem.call f vs) := Att.attach_call hn hdf fun w s₀ s₁ mg mb fa o pm cd doc a vs ns G Y ho hd hcd hmg hobj hints hlen hg =>
  let ⟨fd, hb, hF⟩ := F w mg fa _ (hY w _ Y) G.T.g hmg
  law_callG (hY w _ Y) G.T.g G.T.b G.T.builtins G.T.nolimit hg hobj hints (Nat.le_trans hlen hn2) hr hF hb fun H only sq => hsp _ H a ns hlen only sq
end DL
namespace DL
open PySem PySem.Spec PyProof.Rows L2
section
variable {X : Cx}
/-! ### arguments, displays -/
def dNil : A1 := fun _ h Q => Q [] h
def dCons (t : E1) (r : A1) : A1 := fun σ h Q => t σ h fun x h1 => r σ h1 fun xs h2 => Q (x :: xs) h2
theorem da_nil : DA X [] dNil := weakA pa_nil fun σV H QV ⟨σ, h, Q, hE, hH, ht, hc⟩ => hc [] h [] H Stp.refl hH rfl ht
theorem da_cons {e : Expr} {es : List Expr} {t : E1} {r : A1} (a : DE X e t) (b : DA X es r) (hs : starEach (e :: es) X.env = (false, eval e X.env) :: starEach es X.env := by rfl) : DA X (e :: es) (dCons t r) :=
  weakA (pa_cons a b hs) fun σV H QV ⟨σ, h, Q, hE, hH, ht, hc⟩ => by
    refine ⟨σ, h, _, hE, hH, ht, fun x h1 v H1 s1 hH1 r1 q1 => ?_⟩
    refine ⟨σ, h1, _, hE.mono (Stp.mo hH s1), hH1, q1, fun xs h2 vs H2 s2 hH2 r2 q2 => ?_⟩
    exact hc (x :: xs) h2 _ H2 (s1.trans s2) hH2 (RepVs.cons (RepV.mono (Stp.mo hH1 s2) _ r1) r2) q2
def dTup (t : A1) : E1 := fun σ h Q => t σ h fun ds h1 => ds.length ≤ sizeLine ∧ Q (.tup ds) h1
def dLst (t : A1) : E1 := fun σ h Q => t σ h fun ds h1 => ds.length ≤ sizeLine ∧ ∀ p, h1 p = none → Q (.ref p) (up h1 p (.lst ds))
theorem de_tup {es : List Expr} {t : A1} {k : Nat} {pos : Pos} (a : DA X es t) : DE X (.Tuple es k pos) (dTup t) := weakE (pe_tup a) fun σV H QV ⟨σ, h, Q, hE, hH, ht, hc⟩ =>
  ⟨σ, h, _, hE, hH, ht, fun ds h1 vs H1 s1 hH1 r1 q => ⟨by rw [← r1.length]; exact q.1, fun p n => (hc.step s1).tup hH1 n r1 q.2⟩⟩
theorem de_lst {es : List Expr} {t : A1} {pos : Pos} (a : DA X es t) : DE X (.List es pos) (dLst t) := weakE (pe_lst a) fun σV H QV ⟨σ, h, Q, hE, hH, ht, hc⟩ =>
  ⟨σ, h, _, hE, hH, ht, fun ds h1 vs H1 s1 hH1 r1 q => ⟨by rw [← r1.length]; exact q.1, fun p n => (hc.step s1).new hH1 n r1 (q.2 p (hH1.nofresh n))⟩⟩
/-! ### calls of built-ins -/
abbrev C1 := List D → MH → KD → Prop
def lowC (K : KW) (r : C1) : List V → Hp → VK → Prop := fun vs H QV => ∃ ds h Q, RepVs K H ds vs ∧ RepH K h H ∧ r ds h Q ∧ Cl K h H Q QV
def dCall (r : C1) (t : A1) : E1 := fun σ h Q => t σ h fun ds h1 => r ds h1 Q
theorem low_call {K : KW} {r : C1} {t : A1} {σV : L2.St} {H : Hp} {QV : VK} (q : lowE K (dCall r t) σV H QV) : tCB (lowC K r) (lowA K t) σV H QV := by
  obtain ⟨σ, h, Q, hE, hH, ht, hc⟩ := q
  exact ⟨σ, h, _, hE, hH, ht, fun ds h1 vs H1 s1 hH1 r1 q => ⟨ds, h1, Q, r1, hH1, q, hc.step s1⟩⟩
theorem callR_of {f : Value} {r' : List V → Hp → VK → Prop} (h : ∀ xs H Q, r' xs H Q → ∃ r, CallR X f r ∧ r xs H Q) : CallR X f r' := fun pins s σ H xs us Q I rx hr =>
  let ⟨r, ho, hq⟩ := h xs H Q hr
  ho pins s σ H xs us Q I rx hq
theorem de_callB {id : String} {r : C1} {x : Str} {e : Expr} {es : List Expr} {t : A1} {p pos : Pos} (hc : CallR X (.builtin id) (lowC X.kw r)) (hg : Gl X x) (hm : X.mg x = none) (hv : bootBuiltins x = some (.builtin id)) (ha : DA X (e :: es) t) (hn : x ≠ "__name__" := by decide) (hdb : (x == ("__debug__" : Str)) = false := by decide)
    (he : starEach (e :: es) X.env = (false, eval e X.env) :: starEach es X.env := by rfl) (hpl : (backTo pos (starEach es X.env)).any (·.1) = false := by rfl) : DE X (.Call (.Name x p) (e :: es) [] pos) (dCall r t) :=
  weakE (pe_callB hc hg hm hv ha hn hdb he hpl) fun _ _ _ q => low_call q
theorem de_callTy {T : String} {r : C1} {x : Str} {e : Expr} {es : List Expr} {t : A1} {p pos : Pos} (hc : CallR X (.type T) (lowC X.kw r)) (hg : Gl X x) (hm : X.mg x = none) (hv : bootBuiltins x = some (.type T)) (ha : DA X (e :: es) t) (hn : x ≠ "__name__" := by decide) (hdb : (x == ("__debug__" : Str)) = false := by decide)
    (he : starEach (e :: es) X.env = (false, eval e X.env) :: starEach es X.env := by rfl) (hpl : (backTo pos (starEach es X.env)).any (·.1) = false := by rfl) : DE X (.Call (.Name x p) (e :: es) [] pos) (dCall r t) :=
  weakE (pe_callTy hc hg hm hv ha hn hdb he hpl) fun _ _ _ q => low_call q
theorem de_ty {T : String} {x : Str} {pos : Pos} (hg : Gl X x) (hm : X.mg x = none) (hv : bootBuiltins x = some (.type T)) (hn : x ≠ "__name__" := by decide) (hd : (x == ("__debug__" : Str)) = false := by decide) : DE X (.Name x pos) (dC (.ty T)) :=
  de_c (pe_bltn (v := .ty T) hg hm hv rfl hn hd) fun _ => rfl
theorem rep1 {K : KW} {H : Hp} {d : D} {vs : List V} (r : RepVs K H [d] vs) : ∃ v, vs = [v] ∧ RepV K H d v := by
  obtain ⟨v, u, rfl, a, b⟩ := r
  cases (show u = [] from b)
  exact ⟨v, rfl, a⟩
theorem rep2 {K : KW} {H : Hp} {d e : D} {vs : List V} (r : RepVs K H [d, e] vs) : ∃ v u, vs = [v, u] ∧ RepV K H d v ∧ RepV K H e u := by
  obtain ⟨v, u, rfl, a, b⟩ := r
  obtain ⟨w, rfl, c⟩ := rep1 b
  exact ⟨v, w, rfl, a, c⟩
def on1 (r : D → MH → KD → Prop) : C1 := fun ds h Q => match ds with
  | [d] => r d h Q
  | _ => False
def on2 (r : R1) : C1 := fun ds h Q => match ds with
  | [d, e] => r d e h Q
  | _ => False
theorem on1_inv {r : D → MH → KD → Prop} {ds : List D} {h : MH} {Q : KD} (q : on1 r ds h Q) : ∃ d, ds = [d] ∧ r d h Q := by
  unfold on1 at q
  split at q
  · exact ⟨_, rfl, q⟩
  · exact q.elim
theorem on2_inv {r : R1} {ds : List D} {h : MH} {Q : KD} (q : on2 r ds h Q) : ∃ d e, ds = [d, e] ∧ r d e h Q := by
  unfold on2 at q
  split at q
  · exact ⟨_, _, rfl, q⟩
  · exact q.elim
theorem callR_1 {f : Value} {r : D → MH → KD → Prop} (h : ∀ (x : V) (d : D) (h : MH) (H : Hp) (Q : KD) (QV : VK), RepV X.kw H d x → RepH X.kw h H → r d h Q → Cl X.kw h H Q QV → ∃ r, CallR X f r ∧ r [x] H QV) : CallR X f (lowC X.kw (on1 r)) :=
  callR_of fun xs H QV ⟨ds, m, Q, rv, hH, hr, hc⟩ => by
    obtain ⟨d, rfl, q⟩ := on1_inv hr
    obtain ⟨x, rfl, rx⟩ := rep1 rv
    exact h x d m H Q QV rx hH q hc
theorem callR_2 {f : Value} {r : R1} (h : ∀ (x y : V) (d e : D) (h : MH) (H : Hp) (Q : KD) (QV : VK), RepV X.kw H d x → RepV X.kw H e y → RepH X.kw h H → r d e h Q → Cl X.kw h H Q QV → ∃ r, CallR X f r ∧ r [x, y] H QV) : CallR X f (lowC X.kw (on2 r)) :=
  callR_of fun xs H QV ⟨ds, m, Q, rv, hH, hr, hc⟩ => by
    obtain ⟨d, e, rfl, q⟩ := on2_inv hr
    obtain ⟨x, y, rfl, rx, ry⟩ := rep2 rv
    exact h x y d e m H Q QV rx ry hH q hc
def seqK (k : List D → Prop) : Option (List D) → Prop
  | some ds => k ds
  | none => False
/-- len -/
def lenO (h : MH) (Q : KD) : Option MO → Prop
  | some (.lst ds) => Q (.int ds.length) h
  | some (.dic kvs) => Q (.int kvs.length) h
  | _ => False
def lenD (x : D) (h : MH) (Q : KD) : Prop := match x with
  | .str z => Q (.int z.length) h
  | .tup ds => Q (.int ds.length) h
  | .rol ds => Q (.int ds.length) h
  | .ref a => lenO h Q (h a)
  | _ => False
def rLenN (X : Cx) : List V → Hp → VK → Prop := fun vs H Q => ∃ a kvs, vs = [.ref a] ∧ RepO X.kw H a (.dic kvs) ∧ Q (.int kvs.length) H
theorem call_lenN : CallR X (.builtin "len") (rLenN X) := by
  intro pins s σ H xs us Q I rx ⟨a, kvs, ex, ro, q⟩
  rcases id ro with ⟨kv, e, r⟩ | ⟨xs', r⟩
  · exact call_lenD pins s σ H xs us Q I rx ⟨a, kv, ex, e, by rw [← r.length]; exact q⟩
  · subst ex
    cases rx with
    | cons r1 r2 =>
      cases r2
      cases r1
      have low := r.low
      have D : NDict X H a xs' := ⟨r.at_, r.low, by rw [← r.rep.length]; exact r.len, r.rep.keys r.tup, r.nd⟩
      have hl := r.len
      rw [sizeLine_eq] at hl
      have el : xs'.length = kvs.length := r.rep.length.symm
      obtain ⟨ys, dh, p⟩ := D.heap I
      have ey : (pairsH ys).length = kvs.length := by rw [pairsH_length, ← p.length]; exact el
      refine PyProof.Rows.call_len_slot (n := kvs.length) (dic_type I ro) PySem.F.slot_dict_len (fun Q' hq => len_keyed (knd := nkd X) low ⟨ys, dh, rfl⟩ (by rw [ey]; exact hq)) (by omega) (by omega) ?_
      exact ⟨.int _, H, I.tok _, ⟨_, rfl⟩, q⟩
theorem xd_len : CallR X (.builtin "len") (lowC X.kw (on1 lenD)) := callR_1 fun x d h H Q QV rx hH hr hc => by
  have sq : ∀ {a : Addr} {vs : List V} {ds : List D}, x = .ref a → (SqL X.K H a vs ∨ SqT X.K H a vs) → RepVs X.kw H ds vs → Q (.int ds.length) h → ∃ r, CallR X (.builtin "len") r ∧ r [x] H QV := by
    rintro a vs ds rfl hs rv hr
    refine ⟨_, call_len_seq, a, vs, rfl, hs, ?_⟩
    rw [← rv.length]
    exact hc.int hH hr
  cases d with
  | str z =>
    obtain ⟨rfl, ok⟩ := rx
    exact ⟨_, call_len_str, z, rfl, ok.1, hc.int hH hr⟩
  | tup ds => obtain ⟨a, vs, ex, st, rs⟩ := rx; exact sq ex (.inr st) rs hr
  | rol ds => obtain ⟨a, vs, ex, st, rs⟩ := rx; exact sq ex (.inl st.sq) rs hr
  | ref a =>
    have ex : x = .ref a := rx
    have hr : lenO h Q (h a) := hr
    cases q : h a with
    | none => rw [q] at hr; exact hr.elim
    | some o =>
      rw [q] at hr
      cases o with
      | lst ds =>
        obtain ⟨vs, eH, rs⟩ := hH a _ q
        exact sq ex (.inl (SqL.of eH)) rs hr
      | dic kvs =>
        subst ex
        exact ⟨_, call_lenN, a, kvs, rfl, hH a _ q, hc.int hH hr⟩
      | ins _ _ => exact hr.elim
  | _ => exact hr.elim
/-- tuple(xs) -/
def tupleD (x : D) (h : MH) (Q : KD) : Prop := seqK (fun ds => Q (.tup ds) h) (seqOf h x)
theorem xd_tuple : CallR X (.type "tuple") (lowC X.kw (on1 tupleD)) := callR_1 fun x d h H Q QV rx hH hr hc => by
  unfold tupleD at hr
  cases q : seqOf h d with
  | none => rw [q] at hr; exact hr.elim
  | some ds =>
    rw [q] at hr
    obtain ⟨a, vs, rfl, rv, hs⟩ := seq_rep hH rx q
    refine ⟨_, call_tuple_of, a, vs, rfl, ?_⟩
    rcases hs with hs | hs
    · exact .inl ⟨hs, fun l n => hc.tup hH n rv hr⟩
    · exact .inr ⟨hs, hc.val hH (d := .tup ds) ⟨a, vs, rfl, hs, rv⟩ hr⟩
/-- list(xs) -/
def listD (x : D) (h : MH) (Q : KD) : Prop := seqK (fun ds => ∀ p, h p = none → Q (.ref p) (up h p (.lst ds))) (seqOf h x)
theorem xd_list : CallR X (.type "list") (lowC X.kw (on1 listD)) := callR_1 fun x d h H Q QV rx hH hr hc => by
  unfold listD at hr
  cases q : seqOf h d with
  | none => rw [q] at hr; exact hr.elim
  | some ds =>
    rw [q] at hr
    obtain ⟨a, vs, rfl, rv, hs⟩ := seq_rep hH rx q
    exact ⟨_, call_list_of, a, vs, rfl, hs, fun l n => hc.new hH n rv (hr l (hH.nofresh n))⟩
/-- abs, int -/
def absD (x : D) (h : MH) (Q : KD) : Prop := match x with
  | .int i => Q (.int (if i < 0 then -i else i)) h
  | _ => False
theorem xd_abs : CallR X (.builtin "abs") (lowC X.kw (on1 absD)) := callR_1 fun x d h H Q QV rx hH hr hc => by
  cases d <;> try exact hr.elim
  case int i =>
    cases (show x = _ from rx)
    exact ⟨_, call_abs, i, rfl, hc.int hH hr⟩
def intD (x : D) (h : MH) (Q : KD) : Prop := match x with
  | .int i => Q (.int i) h
  | .bool b => Q (.int (if b = true then 1 else 0)) h
  | _ => False
theorem xd_int : CallR X (.type "int") (lowC X.kw (on1 intD)) := callR_1 fun x d h H Q QV rx hH hr hc => by
  cases d <;> try exact hr.elim
  case int i =>
    cases (show x = _ from rx)
    exact ⟨_, call_int1, .inl ⟨i, rfl, hc.int hH hr⟩⟩
  case bool b =>
    cases (show x = _ from rx)
    exact ⟨_, call_int1, .inr ⟨b, rfl, hc.int hH hr⟩⟩
/-- isinstance -/
def tyS (o : Option MO) : Option String := match o with
  | some (.lst _) => some "list"
  | _ => none
def tyN (h : MH) : D → Option String
  | .none => some "NoneType"
  | .bool _ => some "bool"
  | .int _ => some "int"
  | .str _ => some "str"
  | .tup _ => some "tuple"
  | .rol _ => some "list"
  | .ref a => tyS (h a)
  | .ty _ => none
def kitK (k : Bool → Prop) : Option Bool → Prop
  | some b => k b
  | none => False
def isiK (n : String) (k : Bool → Prop) : Option String → Prop
  | some t => kitK k (kitB t n)
  | none => False
def isiD : R1 := fun x y h Q => match y with
  | .ty n => isiK n (fun b => Q (.bool b) h) (tyN h x)
  | _ => False
theorem ty_rep {h : MH} {H : Hp} (hH : RepH X.kw h H) : ∀ {d : D} {v : V} {t : String}, RepV X.kw H d v → tyN h d = some t → TyX X.K H v (.type t)
  | .none, _, _, r, e => by cases e; cases (show _ = _ from r); exact .base .non
  | .bool b, _, _, r, e => by cases e; cases (show _ = _ from r); exact .base (.bl b)
  | .int i, _, _, r, e => by cases e; cases (show _ = _ from r); exact .base (.int i)
  | .str z, _, _, r, e => by cases e; obtain ⟨rfl, _⟩ := r; exact .base (.str z)
  | .tup ds, _, _, r, e => by
    cases e
    obtain ⟨a, vs, rfl, s, _⟩ := r
    rcases s with (s | ⟨o, s⟩) | ⟨o, its, n, s, c, _⟩
    · exact .base (.tup s)
    · exact .fTuple s
    · exact .kTuple s c
  | .rol ds, _, _, r, e => by
    cases e
    obtain ⟨a, vs, rfl, s, _⟩ := r
    rcases s with ⟨o, s⟩ | ⟨o, its, n, s, c, _⟩
    · exact .base (.frz s)
    · exact .kList s c
  | .ref a, _, t, r, e => by
    cases (show _ = V.ref a from r)
    have e : tyS (h a) = some t := e
    cases q : h a with
    | none => rw [q] at e; cases e
    | some o =>
      cases o with
      | lst ds =>
        rw [q] at e; cases e
        obtain ⟨vs, eH, _⟩ := hH a _ q
        exact .base (.lst eH)
      | dic _ => rw [q] at e; cases e
      | ins _ _ => rw [q] at e; cases e
  | .ty _, _, _, _, e => by cases e
theorem xd_isi : CallR X (.builtin "isinstance") (lowC X.kw (on2 isiD)) := callR_2 fun x y d e h H Q QV rx ry hH hr hc => by
  cases e <;> try exact hr.elim
  case ty n =>
    cases (show y = _ from ry)
    have hr : isiK n (fun b => Q (.bool b) h) (tyN h d) := hr
    cases q : tyN h d with
    | none => rw [q] at hr; exact hr.elim
    | some t =>
      rw [q] at hr
      have hr : kitK (fun b => Q (.bool b) h) (kitB t n) := hr
      cases q2 : kitB t n with
      | none => rw [q2] at hr; exact hr.elim
      | some b =>
        rw [q2] at hr
        exact ⟨_, call_isi, x, .ty n, .type t, .type n, b, rfl, .ty n, ty_rep hH rx q, kit_ty q2, hc.bl hH hr⟩
/-- all, any, sum -/
def blsOf : List D → Option (List Bool)
  | [] => some []
  | .bool b :: r => (blsOf r).map (b :: ·)
  | _ :: _ => none
def intsOf : List D → Option (List Int)
  | [] => some []
  | .int b :: r => (intsOf r).map (b :: ·)
  | _ :: _ => none
def strsOf : List D → Option (List Str)
  | [] => some []
  | .str b :: r => (strsOf r).map (b :: ·)
  | _ :: _ => none
theorem blsOf_rep {K : KW} {H : Hp} : ∀ {ds : List D} {vs : List V} {bs : List Bool}, RepVs K H ds vs → blsOf ds = some bs → vs = bs.map V.bl
  | [], _, _, r, e => by cases e; exact r
  | .bool b :: ds, _, bs, r, e => by
    obtain ⟨v, u, rfl, h1, h2⟩ := r
    unfold blsOf at e
    cases q : blsOf ds with
    | none => rw [q] at e; cases e
    | some cs => rw [q] at e; cases e; rw [blsOf_rep h2 q]; cases (show v = _ from h1); rfl
  | .none :: _, _, _, _, e => by cases e
  | .int _ :: _, _, _, _, e => by cases e
  | .str _ :: _, _, _, _, e => by cases e
  | .tup _ :: _, _, _, _, e => by cases e
  | .rol _ :: _, _, _, _, e => by cases e
  | .ref _ :: _, _, _, _, e => by cases e
  | .ty _ :: _, _, _, _, e => by cases e
theorem intsOf_rep {K : KW} {H : Hp} : ∀ {ds : List D} {vs : List V} {bs : List Int}, RepVs K H ds vs → intsOf ds = some bs → vs = bs.map V.int
  | [], _, _, r, e => by cases e; exact r
  | .int b :: ds, _, bs, r, e => by
    obtain ⟨v, u, rfl, h1, h2⟩ := r
    unfold intsOf at e
    cases q : intsOf ds with
    | none => rw [q] at e; cases e
    | some cs => rw [q] at e; cases e; rw [intsOf_rep h2 q]; cases (show v = _ from h1); rfl
  | .none :: _, _, _, _, e => by cases e
  | .bool _ :: _, _, _, _, e => by cases e
  | .str _ :: _, _, _, _, e => by cases e
  | .tup _ :: _, _, _, _, e => by cases e
  | .rol _ :: _, _, _, _, e => by cases e
  | .ref _ :: _, _, _, _, e => by cases e
  | .ty _ :: _, _, _, _, e => by cases e
theorem strsOf_rep {K : KW} {H : Hp} : ∀ {ds : List D} {vs : List V} {bs : List Str}, RepVs K H ds vs → strsOf ds = some bs → vs = bs.map V.str ∧ ∀ z ∈ bs, okS z
  | [], _, _, r, e => by cases e; exact ⟨r, fun _ z => by cases z⟩
  | .str b :: ds, _, bs, r, e => by
    obtain ⟨v, u, rfl, h1, h2⟩ := r
    unfold strsOf at e
    cases q : strsOf ds with
    | none => rw [q] at e; cases e
    | some cs =>
      rw [q] at e; cases e
      obtain ⟨a, b'⟩ := strsOf_rep h2 q
      obtain ⟨rfl, ok⟩ := h1
      exact ⟨by rw [a]; rfl, fun z hz => (List.mem_cons.mp hz).elim (fun e => e ▸ ok) (b' z)⟩
  | .none :: _, _, _, _, e => by cases e
  | .bool _ :: _, _, _, _, e => by cases e
  | .int _ :: _, _, _, _, e => by cases e
  | .tup _ :: _, _, _, _, e => by cases e
  | .rol _ :: _, _, _, _, e => by cases e
  | .ref _ :: _, _, _, _, e => by cases e
  | .ty _ :: _, _, _, _, e => by cases e
theorem blsOf_map (bs : List Bool) : blsOf (bs.map D.bool) = some bs := by
  induction bs with
  | nil => rfl
  | cons b r ih => show (blsOf (r.map D.bool)).map (b :: ·) = _; rw [ih]; rfl
theorem intsOf_map (bs : List Int) : intsOf (bs.map D.int) = some bs := by
  induction bs with
  | nil => rfl
  | cons b r ih => show (intsOf (r.map D.int)).map (b :: ·) = _; rw [ih]; rfl
theorem strsOf_map (bs : List Str) : strsOf (bs.map D.str) = some bs := by
  induction bs with
  | nil => rfl
  | cons b r ih => show (strsOf (r.map D.str)).map (b :: ·) = _; rw [ih]; rfl
def blsK (k : List Bool → Prop) (h : MH) : D → Prop
  | .ref a => seqK (fun ds => ∃ bs, blsOf ds = some bs ∧ k bs) (seqO (h a))
  | .rol ds => ∃ bs, blsOf ds = some bs ∧ k bs
  | _ => False
def allD (x : D) (h : MH) (Q : KD) : Prop := blsK (fun bs => Q (.bool (bs.all id)) h) h x
def anyD (x : D) (h : MH) (Q : KD) : Prop := blsK (fun bs => Q (.bool (bs.any id)) h) h x
theorem blsK_rep {k : List Bool → Prop} {h : MH} {H : Hp} (hH : RepH X.kw h H) {d : D} {v : V} (r : RepV X.kw H d v) (q : blsK k h d) : ∃ a bs, v = .ref a ∧ SqL X.K H a (bs.map V.bl) ∧ k bs := by
  cases d <;> try exact q.elim
  case ref a =>
    cases (show v = _ from r)
    have q : seqK (fun ds => ∃ bs, blsOf ds = some bs ∧ k bs) (seqO (h a)) := q
    cases e : h a with
    | none => rw [e] at q; exact q.elim
    | some o =>
      cases o with
      | lst ds =>
        rw [e] at q
        obtain ⟨bs, e1, kb⟩ := q
        obtain ⟨vs, eH, rv⟩ := hH a _ e
        have := blsOf_rep rv e1
        subst this
        exact ⟨a, bs, rfl, SqL.of eH, kb⟩
      | dic _ => rw [e] at q; exact q.elim
      | ins _ _ => rw [e] at q; exact q.elim
  case rol ds =>
    obtain ⟨a, vs, rfl, s, rv⟩ := r
    obtain ⟨bs, e1, kb⟩ := q
    have := blsOf_rep rv e1
    subst this
    exact ⟨a, bs, rfl, s.sq, kb⟩
theorem xd_all (hc : X.calm = true) : CallR X (.builtin "all") (lowC X.kw (on1 allD)) := callR_1 fun x d h H Q QV rx hH hr hcl => by
  obtain ⟨a, bs, rfl, s, q⟩ := blsK_rep hH rx hr
  exact ⟨_, cr_all hc, a, bs, rfl, s, hcl.bl hH q⟩
theorem xd_any (hc : X.calm = true) : CallR X (.builtin "any") (lowC X.kw (on1 anyD)) := callR_1 fun x d h H Q QV rx hH hr hcl => by
  obtain ⟨a, bs, rfl, s, q⟩ := blsK_rep hH rx hr
  exact ⟨_, cr_any hc, a, bs, rfl, s, hcl.bl hH q⟩
def intsK (k : List Int → Prop) (h : MH) : D → Prop
  | .ref a => seqK (fun ds => ∃ bs, intsOf ds = some bs ∧ k bs) (seqO (h a))
  | .rol ds => ∃ bs, intsOf ds = some bs ∧ k bs
  | _ => False
theorem intsK_rep {k : List Int → Prop} {h : MH} {H : Hp} (hH : RepH X.kw h H) {d : D} {v : V} (r : RepV X.kw H d v) (q : intsK k h d) : ∃ a bs, v = .ref a ∧ SqL X.K H a (bs.map V.int) ∧ k bs := by
  cases d <;> try exact q.elim
  case ref a =>
    cases (show v = _ from r)
    have q : seqK (fun ds => ∃ bs, intsOf ds = some bs ∧ k bs) (seqO (h a)) := q
    cases e : h a with
    | none => rw [e] at q; exact q.elim
    | some o =>
      cases o with
      | lst ds =>
        rw [e] at q
        obtain ⟨bs, e1, kb⟩ := q
        obtain ⟨vs, eH, rv⟩ := hH a _ e
        have := intsOf_rep rv e1
        subst this
        exact ⟨a, bs, rfl, SqL.of eH, kb⟩
      | dic _ => rw [e] at q; exact q.elim
      | ins _ _ => rw [e] at q; exact q.elim
  case rol ds =>
    obtain ⟨a, vs, rfl, s, rv⟩ := r
    obtain ⟨bs, e1, kb⟩ := q
    have := intsOf_rep rv e1
    subst this
    exact ⟨a, bs, rfl, s.sq, kb⟩
def sumD (x : D) (h : MH) (Q : KD) : Prop := intsK (fun bs => Q (.int bs.sum) h) h x
theorem xd_sum (hc : X.calm = true) : CallR X (.builtin "sum") (lowC X.kw (on1 sumD)) := callR_1 fun x d h H Q QV rx hH hr hcl => by
  obtain ⟨a, bs, rfl, s, q⟩ := intsK_rep hH rx hr
  exact ⟨_, cr_sum hc, a, bs, rfl, s, hcl.int hH q⟩
def max2D : R1 := fun x y h Q => match x, y with
  | .int i, .int j => Q (.int (if j > i then j else i)) h
  | _, _ => False
def min2D : R1 := fun x y h Q => match x, y with
  | .int i, .int j => Q (.int (if j < i then j else i)) h
  | _, _ => False
theorem xd_max2 (hc : X.calm = true) : CallR X (.builtin "max") (lowC X.kw (on2 max2D)) := callR_2 fun x y d e h H Q QV rx ry hH hr hcl => by
  cases d <;> cases e <;> try exact hr.elim
  case int.int i j =>
    cases (show x = _ from rx)
    cases (show y = _ from ry)
    exact ⟨_, call_max2 hc, i, j, rfl, hcl.int hH hr⟩
theorem xd_min2 (hc : X.calm = true) : CallR X (.builtin "min") (lowC X.kw (on2 min2D)) := callR_2 fun x y d e h H Q QV rx ry hH hr hcl => by
  cases d <;> cases e <;> try exact hr.elim
  case int.int i j =>
    cases (show x = _ from rx)
    cases (show y = _ from ry)
    exact ⟨_, call_min2 hc, i, j, rfl, hcl.int hH hr⟩
/-! ### methods of lists and texts -/
abbrev M1 := D → List D → MH → KD → Prop
def lowM (K : KW) (r : M1) : V → List V → Hp → VK → Prop := fun x vs H QV => ∃ d ds h Q, RepV K H d x ∧ RepVs K H ds vs ∧ RepH K h H ∧ r d ds h Q ∧ Cl K h H Q QV
theorem mtR_of {id : String} {r' : V → List V → Hp → VK → Prop} (h : ∀ x xs H Q, r' x xs H Q → ∃ r, MtR X id r ∧ r x xs H Q) : MtR X id r' := fun pins s σ H x xs v us Q I rx rs hr =>
  let ⟨r, ho, hq⟩ := h x xs H Q hr
  ho pins s σ H x xs v us Q I rx rs hq
def isLst (o : Option MO) : Prop := match o with
  | some (.lst _) => True
  | _ => False
def okL (x : D) (h : MH) : Prop := match x with
  | .ref a => isLst (h a)
  | _ => False
theorem okL_rep {h : MH} {H : Hp} (hH : RepH X.kw h H) {d : D} {v : V} (r : RepV X.kw H d v) (q : okL d h) : tyV X.K "list" v H := by
  cases d <;> try exact q.elim
  case ref a =>
    cases (show v = _ from r)
    have q : isLst (h a) := q
    cases e : h a with
    | none => rw [e] at q; exact q.elim
    | some o =>
      cases o with
      | lst ds =>
        obtain ⟨vs, eH, _⟩ := hH a _ e
        exact .inl ⟨rfl, vs, SqL.of eH⟩
      | dic _ => rw [e] at q; exact q.elim
      | ins _ _ => rw [e] at q; exact q.elim
def dBM0 (ok : D → MH → Prop) (r : M1) (to : E1) : E1 := fun σ h Q => to σ h fun x h1 => ok x h1 ∧ r x [] h1 Q
def dBM (ok : D → MH → Prop) (r : M1) (to : E1) (t : A1) : E1 := fun σ h Q => to σ h fun x h1 => ok x h1 ∧ t σ h1 fun ds h2 => r x ds h2 Q
theorem de_lm0 {o : Expr} {to : E1} {r : M1} {name : Str} {id : String} {apos cpos : Pos} (slot : Slot "list" name id) (hty : typeOf (.builtin id) = pure (.type "method_descriptor")) (hm : MtR X id (lowM X.kw r)) (ho : DE X o to)
    (hbase : attributeBase o name X.env (eval o X.env) = eval o X.env := by rfl) (hline : (apos.endLine == cpos.line) = true := by rfl) : DE X (.Call (.Attribute o name apos) [] [] cpos) (dBM0 okL r to) :=
  weakE (pe_bm0 PySem.F.plainAttrs_list slot hty hm ho hbase hline) fun σV H QV ⟨σ, h, Q, hE, hH, ht, hc⟩ => ⟨σ, h, _, hE, hH, ht, fun x h1 v H1 s1 hH1 r1 q => ⟨okL_rep hH1 r1 q.1, x, [], h1, Q, r1, rfl, hH1, q.2, hc.step s1⟩⟩
theorem de_lm {o e : Expr} {es : List Expr} {to : E1} {t : A1} {r : M1} {name : Str} {id : String} {apos cpos : Pos} (slot : Slot "list" name id) (hty : typeOf (.builtin id) = pure (.type "method_descriptor")) (hm : MtR X id (lowM X.kw r)) (ho : DE X o to) (ha : DA X (e :: es) t)
    (hbase : attributeBase o name X.env (eval o X.env) = eval o X.env := by rfl)
    (hfew : ((backTo cpos (starEach (e :: es) X.env)).all (fun x => !x.1) && (backToKw cpos (keywordEach [] X.env)).all (fun x => x.1.isSome)
      && decide ((e :: es).length + ([] : List Keyword).length + (if ([] : List Keyword).isEmpty then 0 else 1) < 30)) = true := by rfl)
    (hline : (apos.endLine == cpos.line) = true := by rfl) (hs : starEach (e :: es) X.env = (false, eval e X.env) :: starEach es X.env := by rfl) (hplain : (backTo cpos (starEach es X.env)).any (·.1) = false := by rfl) :
    DE X (.Call (.Attribute o name apos) (e :: es) [] cpos) (dBM okL r to t) :=
  weakE (pe_bm PySem.F.plainAttrs_list slot hty hm ho ha hbase hfew hline hs hplain) fun σV H QV ⟨σ, h, Q, hE, hH, ht, hc⟩ => ⟨σ, h, _, hE, hH, ht, fun x h1 v H1 s1 hH1 r1 q => ⟨okL_rep hH1 r1 q.1, σ, h1, _, hE.mono (Stp.mo hH s1), hH1, q.2,
    fun ds h2 vs H2 s2 hH2 r2 q2 => ⟨x, ds, h2, Q, RepV.mono (Stp.mo hH1 s2) _ r1, r2, hH2, q2, hc.step (s1.trans s2)⟩⟩⟩
def lstK (k : List D → Prop) : Option MO → Prop
  | some (.lst xs) => k xs
  | _ => False
theorem lstK_inv {k : List D → Prop} {o : Option MO} (q : lstK k o) : ∃ xs, o = some (.lst xs) ∧ k xs := by
  cases o with
  | none => exact q.elim
  | some o =>
    cases o with
    | lst xs => exact ⟨xs, rfl, q⟩
    | dic _ => exact q.elim
    | ins _ _ => exact q.elim
def appendD : M1 := fun x ds h Q => match x, ds with
  | .ref a, [d] => lstK (fun xs => xs.length < sizeLine ∧ Q .none (up h a (.lst (xs ++ [d])))) (h a)
  | _, _ => False
theorem xm_append : MtR X "list.append" (lowM X.kw appendD) := mtR_of fun x vs H QV ⟨d, ds, h, Q, rx, rv, hH, hr, hc⟩ => by
  unfold appendD at hr
  split at hr
  · rename_i a e
    obtain ⟨xs, eh, hz, q⟩ := lstK_inv hr
    cases (show x = _ from rx)
    obtain ⟨v, rfl, r1⟩ := rep1 rv
    obtain ⟨us, eH, ru⟩ := hH a _ eh
    exact ⟨_, mt_append, a, us, v, rfl, rfl, eH, by rw [← ru.length]; exact hz, hc.write hH eh (.of (P2.append ru.pair (.cons r1 .nil))) (d := .none) rfl q⟩
  · exact hr.elim
def popD : M1 := fun x ds h Q => match x, ds with
  | .ref a, [] => lstK (fun xs => ∃ y, xs.getLast? = some y ∧ Q y (up h a (.lst xs.dropLast))) (h a)
  | .ref a, [.int i] => lstK (fun xs => ∃ k y, ixN xs.length i = some k ∧ xs[k]? = some y ∧ (-(2 ^ 63) ≤ i ∧ i < 2 ^ 63) ∧ Q y (up h a (.lst (xs.eraseIdx k)))) (h a)
  | _, _ => False
theorem xm_pop : MtR X "list.pop" (lowM X.kw popD) := mtR_of fun x vs H QV ⟨d, ds, h, Q, rx, rv, hH, hr, hc⟩ => by
  unfold popD at hr
  split at hr
  · rename_i a
    obtain ⟨xs, eh, y, ey, q⟩ := lstK_inv hr
    cases (show x = _ from rx)
    cases (show vs = [] from rv)
    obtain ⟨us, eH, ru⟩ := hH a _ eh
    rw [List.getLast?_eq_getElem?] at ey
    obtain ⟨w, ew, rw'⟩ := P2.get ru.pair ey
    rw [ru.length] at ew
    exact ⟨_, mt_pop, a, us, w, rfl, rfl, eH, ew, hc.write hH eh (.of (P2.dropLast ru.pair)) rw' q⟩
  · rename_i a i
    obtain ⟨xs, eh, k, y, ek, ey, hb, q⟩ := lstK_inv hr
    cases (show x = _ from rx)
    obtain ⟨v, rfl, r1⟩ := rep1 rv
    cases (show v = _ from r1)
    obtain ⟨us, eH, ru⟩ := hH a _ eh
    obtain ⟨w, ew, rw'⟩ := P2.get ru.pair ey
    exact ⟨_, mt_popAt, a, us, i, k, w, rfl, rfl, eH, hb.1, hb.2, by rw [← ru.length]; exact (ixN_seq ek).1, ew, hc.write hH eh (.of (P2.eraseIdx k ru.pair)) rw' q⟩
  · exact hr.elim
def extendD : M1 := fun x ds h Q => match x, ds with
  | .ref a, [.ref b] => lstK (fun xs => lstK (fun ys => xs.length + ys.length ≤ sizeLine ∧ Q .none (up h a (.lst (xs ++ ys)))) (h b)) (h a)
  | _, _ => False
theorem xm_extend : MtR X "list.extend" (lowM X.kw extendD) := mtR_of fun x vs H QV ⟨d, ds, h, Q, rx, rv, hH, hr, hc⟩ => by
  unfold extendD at hr
  split at hr
  · rename_i a b
    obtain ⟨xs, eh, hr⟩ := lstK_inv hr
    obtain ⟨ys, eh2, hz, q⟩ := lstK_inv hr
    cases (show x = _ from rx)
    obtain ⟨v, rfl, r1⟩ := rep1 rv
    cases (show v = _ from r1)
    obtain ⟨us, eH, ru⟩ := hH a _ eh
    obtain ⟨ws, eH2, ru2⟩ := hH b _ eh2
    exact ⟨_, mt_extend, a, b, us, ws, rfl, rfl, eH, eH2, by rw [← ru.length, ← ru2.length]; exact hz, hc.write hH eh (.of (P2.append ru.pair ru2.pair)) (d := .none) rfl q⟩
  · exact hr.elim
/-! texts -/
theorem len_joinL (S : List Nat) : ∀ ps : List (List Nat), (TL.joinL S ps).length ≤ (ps.map (·.length)).sum + ps.length * S.length
  | [] => by simp [TL.joinL]
  | [p] => by simp [TL.joinL]
  | p :: q :: r => by
    have ih := len_joinL S (q :: r)
    show (p ++ (S ++ TL.joinL S (q :: r))).length ≤ _
    rw [List.length_append, List.length_append, List.map_cons, List.sum_cons]
    have e : (p :: q :: r).length * S.length = (q :: r).length * S.length + S.length := by rw [List.length_cons, Nat.add_one_mul]
    omega
theorem mem_joinL {c : Nat} (S : List Nat) : ∀ ps : List (List Nat), c ∈ TL.joinL S ps → c ∈ S ∨ ∃ p ∈ ps, c ∈ p
  | [], h => by simp [TL.joinL] at h
  | [p], h => .inr ⟨p, by simp, h⟩
  | p :: q :: r, h => by
    have h' : c ∈ p ++ (S ++ TL.joinL S (q :: r)) := h
    rcases List.mem_append.mp h' with h | h
    · exact .inr ⟨p, by simp, h⟩
    · rcases List.mem_append.mp h with h | h
      · exact .inl h
      · rcases mem_joinL S (q :: r) h with h | ⟨p', a, b⟩
        · exact .inl h
        · exact .inr ⟨p', by simp at a ⊢; right; exact a, b⟩
theorem strOk_iff {x : Str} : PyData.strOk x = true ↔ ∀ c ∈ x.cps.toList, c < 0x110000 := by
  unfold PyData.strOk
  rw [← Array.all_toList, List.all_eq_true]
  simp
theorem join_tl (a : Str) (ys : List Str) : (Txt.join a ys).cps.toList = TL.joinL a.cps.toList (ys.map fun y => y.cps.toList) := by
  rw [TL.join_eq]; exact TL.tl_join a ys
theorem okS.join {a : Str} {ys : List Str} (oa : okS a) (oy : ∀ z ∈ ys, okS z) (h : (ys.map (·.length)).sum + ys.length * a.length ≤ sizeLine) : okS (Txt.join a ys) := by
  refine ⟨?_, ?_⟩
  · have := len_joinL a.cps.toList (ys.map fun y => y.cps.toList)
    rw [← join_tl, List.map_map, List.length_map] at this
    have e : ys.map ((fun x => x.length) ∘ fun y : Str => y.cps.toList) = ys.map (·.length) := List.map_congr_left fun z _ => by show z.cps.toList.length = z.cps.size; exact Array.length_toList
    rw [e] at this
    have l : (Txt.join a ys).length = (Txt.join a ys).cps.toList.length := (Array.length_toList).symm
    have l2 : a.cps.toList.length = a.length := Array.length_toList
    rw [l]; rw [l2] at this; omega
  · rw [strOk_iff, join_tl]
    intro c hc
    rcases mem_joinL _ _ hc with h | ⟨p, hp, h⟩
    · exact strOk_iff.mp oa.2 c h
    · obtain ⟨z, hz, rfl⟩ := List.mem_map.mp hp
      exact strOk_iff.mp (oy z hz).2 c h
def joinK (a : Str) (h : MH) (Q : KD) (ds : List D) : Prop := ∃ ys, strsOf ds = some ys ∧ (ys.map (·.length)).sum + ys.length * a.length ≤ sizeLine ∧ Q (.str (Txt.join a ys)) h
def joinD : R1 := fun x y h Q => match x with
  | .str a => seqK (joinK a h Q) (seqOf h y)
  | _ => False
def dJoin (to te : E1) : E1 := fun σ h Q => to σ h fun x h1 => (∃ z, x = .str z) ∧ te σ h1 fun y h2 => joinD x y h2 Q
theorem de_join {o e : Expr} {to te : E1} {apos pos : Pos} (ho : DE X o to) (he : DE X e te) (hs : starEach [e] X.env = [(false, eval e X.env)] := by rfl) (hbase : attributeBase o "join" X.env (eval o X.env) = eval o X.env := by rfl) (hline : (apos.endLine == pos.line) = true := by rfl) :
    DE X (.Call (.Attribute o "join" apos) [e] [] pos) (dJoin to te) :=
  weakE (pe_join ho he hs hbase hline) fun σV H QV ⟨σ, h, Q, hE, hH, ht, hc⟩ => by
    refine ⟨σ, h, _, hE, hH, ht, fun x h1 v H1 s1 hH1 r1 q => ?_⟩
    obtain ⟨⟨z, rfl⟩, q⟩ := q
    obtain ⟨rfl, oz⟩ := r1
    refine ⟨⟨z, rfl⟩, σ, h1, _, hE.mono (Stp.mo hH s1), hH1, q, fun y h2 u H2 s2 hH2 r2 q2 => ?_⟩
    have q2 : seqK (joinK z h2 Q) (seqOf h2 y) := q2
    cases e2 : seqOf h2 y with
    | none => rw [e2] at q2; exact q2.elim
    | some ds =>
      rw [e2] at q2
      obtain ⟨ys, e3, hz, q3⟩ := q2
      obtain ⟨a, vs, rfl, rv, hs⟩ := seq_rep hH2 r2 e2
      obtain ⟨rfl, oy⟩ := strsOf_rep rv e3
      exact ⟨z, a, ys, rfl, rfl, hs, hz, (hc.step (s1.trans s2)).str hH2 (oz.join oy hz) q3⟩
/-! ### calls of defs -/
abbrev P1 := List D → MH → KD → Prop
def lowP (K : KW) (sp : P1) : Sp := fun vs H QV _ => lowC K sp vs H QV
theorem de_call {k : Nat} {f : Addr} {fd : FuncData} {ps : List Str} {sp : P1} {x : Str} {e : Expr} {es : List Expr} {t : A1} {p pos : Pos} (F : FnG X.prog X.w X.K X.mg X.base k f fd ps (lowP X.kw sp)) (hr : RoomG k X.A) (hg : Gl X x) (hm : X.mg x = some (.ref f)) (hk : PySem.W.keepIn X.K (.ref f) = true) (hb : Binds X.K fd ps [])
    (ha : DA X (e :: es) t) (hdb : (x == ("__debug__" : Str)) = false := by decide) (he : starEach (e :: es) X.env = (false, eval e X.env) :: starEach es X.env := by rfl) (hpl : (backTo pos (starEach es X.env)).any (·.1) = false := by rfl) :
    DE X (.Call (.Name x p) (e :: es) [] pos) (dCall sp t) :=
  weakE (pe_callG F hr hg hm hk hb pass0 ha hdb he hpl) fun σV H QV ⟨σ, h, Q, hE, hH, ht, hc⟩ =>
    ⟨σ, h, _, hE, hH, ht, fun ds h1 vs H1 s1 hH1 r1 q => ⟨ds, h1, Q, r1, hH1, q, hc.step s1⟩⟩
theorem de_call0 {k : Nat} {f : Addr} {fd : FuncData} {ps : List Str} {sp : P1} {x : Str} {p pos : Pos} (F : FnG X.prog X.w X.K X.mg X.base k f fd ps (lowP X.kw sp)) (hr : RoomG k X.A) (hg : Gl X x) (hm : X.mg x = some (.ref f)) (hk : PySem.W.keepIn X.K (.ref f) = true) (hb : Binds X.K fd ps [])
    (hdb : (x == ("__debug__" : Str)) = false := by decide) : DE X (.Call (.Name x p) [] [] pos) (dCall sp dNil) :=
  weakE (pe_callG0 F hr hg hm hk hb pass0 hdb) fun σV H QV ⟨σ, h, Q, hE, hH, ht, hc⟩ => (show lowC X.kw sp [] H QV from ⟨[], h, Q, rfl, hH, ht, hc⟩)
end
def startD (n : Nat) (ds : List D) : Sl := ds.map some ++ List.replicate (n - ds.length) none
theorem nth_append_none : ∀ (a : Sl) (n : Nat) (i : Nat) {d : D}, nth (a ++ List.replicate n none) i = some d → nth a i = some d
  | [], 0, _, _, h => by cases h
  | [], n + 1, 0, _, h => by cases h
  | [], n + 1, i + 1, _, h => nth_append_none [] n i h
  | x :: r, n, 0, _, h => h
  | x :: r, n, i + 1, _, h => nth_append_none r n i h
theorem rep_start {K : KW} {H : Hp} {N : List Str} {ds : List D} {vs : List V} (r : RepVs K H ds vs) : RepE K H (startD N.length ds) (L2.start N vs) := by
  refine ⟨?_, fun i d e => ?_⟩
  · unfold startD L2.start
    rw [List.length_append, List.length_append, List.length_map, List.length_map, List.length_replicate, List.length_replicate, r.length]
  · have q := nth_append_none _ _ _ e
    have look : ∀ (ds : List D) (i : Nat) {d : D}, nth (ds.map some) i = some d → ds[i]? = some d := by
      intro ds
      induction ds with
      | nil => intro i d h; cases h
      | cons x r ih =>
        intro i d h
        cases i with
        | zero => exact h
        | succ n => rw [List.getElem?_cons_succ]; exact ih n h
    obtain ⟨v, ev, rv⟩ := P2.get r.pair (look ds i q)
    refine ⟨v, ?_, rv⟩
    unfold L2.start
    rw [List.getElem?_append_left (by rw [List.length_map]; exact (List.getElem?_eq_some_iff.mp ev).1), List.getElem?_map, ev]; rfl
/-- at less -/
def Lh (Q : KD) : KD := fun d h => ∃ h0, le h0 h ∧ Q d h0
def endN (Q : KD) : Nd := { nx := fun _ h => Lh Q .none h, rt := Lh Q }
theorem df_ok {P : Program} {w : World} {K : PySem.W.Frag} {mg : Str → Option Value} {base : Heap} {x qual : Str} {st : Stmt} {f : Addr} {fd : FuncData} {N ps : List Str} {k : Nat} {sp : P1} (F : Fun K x qual st f fd) (S : FnScope N ps (defScope st)) (len : ∀ ds h Q, sp ds h Q → ds.length = ps.length)
    (hbody : ∀ (cdv : Value) (A : Around) (outer : List Env) (s : Shared) (H : Hp) (E : XK), RoomG k (A.deeper (envOfC qual (defScope st) s.heap.objs.size f cdv)) →
      ∃ t, DSs (cxOf CX0 P w K mg base N qual (defScope st) f cdv A outer s H E).nox (defBody st) t ∧ ∀ ds h Q, sp ds h Q → t (endN Q) (startD N.length ds) h) : FnG P w K mg base (k + 1) f fd ps (lowP ⟨K, w⟩ sp) := by
  refine fng_of F S (fun vs H QV E ⟨ds, h, Q, rv, hH, hs, hc⟩ => by rw [← rv.length]; exact len _ _ _ hs) fun cdv A outer s H vs QV E hr hq => ?_
  obtain ⟨t, ht, hb⟩ := hbody cdv A outer s H E hr
  obtain ⟨ds, h, Q, rv, hH, hs, hc⟩ := hq
  refine ⟨_, ht.nox, endN Q, startD N.length ds, h, rep_start rv, hH, hb ds h Q hs, ?_, ?_, ?_, ?_⟩
  · rintro σ' h' σV' H' s' e' r' ⟨h0, w0, q⟩
    exact hc .none h0 .non H' (s'.low w0) (r'.low w0) rfl q
  · rintro d h' v H' s' r' rv' ⟨h0, w0, q⟩
    exact hc d h0 v H' (s'.low w0) (r'.low w0) rv' q
  · intro _ _ _ _ _ _ _ z; exact z.elim
  · intro _ _ _ _ _ _ _ z; exact z.elim
end DL
namespace DL
open PySem PySem.Spec PyProof.Rows L2
section
variable {P : Program} {w : World} {K : PySem.W.Frag} {mg : Str → Option Value} {base : Heap}
/-- a def of the top, as it stands -/
structure TopF (K : PySem.W.Frag) (mg : Str → Option Value) (x qual : Str) (st : Stmt) (ps : List Str) : Prop where
  ex : ∃ f fd, Fun K x qual st f fd ∧ mg x = some (.ref f) ∧ L2.Binds K fd ps []
/-- a def that keeps its promise, ready for calls -/
structure Good (P : Program) (w : World) (K : PySem.W.Frag) (mg : Str → Option Value) (base : Heap) (k : Nat) (x : Str) (ps : List Str) (sp : P1) : Prop where
  ex : ∃ f fd, FnG P w K mg base k f fd ps (lowP ⟨K, w⟩ sp) ∧ mg x = some (.ref f) ∧ PySem.W.keepIn K (.ref f) = true ∧ L2.Binds K fd ps []
theorem good_ok {x qual : Str} {st : Stmt} {N ps : List Str} {k : Nat} {sp : P1} {t : S1} (T : TopF K mg x qual st ps) (S : FnScope N ps (defScope st)) (len : ∀ ds h Q, sp ds h Q → ds.length = ps.length)
    (body : ∀ (f : Addr) (cdv : Value) (A : Around) (outer : List Env) (s : Shared) (H : Hp) (E : XK), RoomG k (A.deeper (envOfC qual (defScope st) s.heap.objs.size f cdv)) →
      DSs (cxOf CX0 P w K mg base N qual (defScope st) f cdv A outer s H E).nox (defBody st) t) (sat : ∀ ds h Q, sp ds h Q → t (endN Q) (startD N.length ds) h) : Good P w K mg base (k + 1) x ps sp := by
  obtain ⟨f, fd, F, m, b⟩ := T.ex
  exact ⟨f, fd, df_ok F S len fun cdv A outer s H E hr => ⟨t, body f cdv A outer s H E hr, sat⟩, m, F.kp, b⟩
theorem Good.mono {x : Str} {ps : List Str} {sp : P1} {j k : Nat} (G : Good P w K mg base j x ps sp) (h : j ≤ k) : Good P w K mg base k x ps sp := by
  obtain ⟨f, fd, F, m, kp, b⟩ := G.ex
  exact ⟨f, fd, F.mono h, m, kp, b⟩
/-- no promise -/
theorem Good.no {x qual : Str} {st : Stmt} {ps : List Str} {k : Nat} (T : TopF K mg x qual st ps) : Good P w K mg base k x ps fun _ _ _ => False := by
  obtain ⟨f, fd, F, m, b⟩ := T.ex
  exact ⟨f, fd, ⟨fun _ _ _ _ ⟨_, _, _, _, _, z, _⟩ => z.elim, fun _ _ _ _ _ _ _ _ _ _ _ _ _ ⟨_, _, _, _, _, z, _⟩ => z.elim⟩, m, F.kp, b⟩
theorem Good.imp {x : Str} {ps : List Str} {sp sp' : P1} {k : Nat} (G : Good P w K mg base k x ps sp) (h : ∀ ds h Q, sp' ds h Q → sp ds h Q) : Good P w K mg base k x ps sp' := by
  obtain ⟨f, fd, F, m, kp, b⟩ := G.ex
  exact ⟨f, fd, F.imp fun _ _ _ _ ⟨ds, h', Q, r1, r2, z, c⟩ => ⟨ds, h', Q, r1, r2, h _ _ _ z, c⟩, m, kp, b⟩
end
section
variable {X : Cx}
theorem de_callG {k j : Nat} {ps : List Str} {sp : P1} {x : Str} {e : Expr} {es : List Expr} {t : A1} {p pos : Pos} (G : Good X.prog X.w X.K X.mg X.base j x ps sp) (hr : RoomG k X.A) (hj : j ≤ k) (hg : Gl X x)
    (ha : DA X (e :: es) t) (hdb : (x == ("__debug__" : Str)) = false := by decide) (he : starEach (e :: es) X.env = (false, eval e X.env) :: starEach es X.env := by rfl) (hpl : (backTo pos (starEach es X.env)).any (·.1) = false := by rfl) :
    DE X (.Call (.Name x p) (e :: es) [] pos) (dCall sp t) := by
  obtain ⟨f, fd, F, m, kp, b⟩ := G.ex
  exact de_call F (hr.mono hj) hg m kp b ha hdb he hpl
theorem de_callG0 {k j : Nat} {ps : List Str} {sp : P1} {x : Str} {p pos : Pos} (G : Good X.prog X.w X.K X.mg X.base j x ps sp) (hr : RoomG k X.A) (hj : j ≤ k) (hg : Gl X x) (hdb : (x == ("__debug__" : Str)) = false := by decide) :
    DE X (.Call (.Name x p) [] [] pos) (dCall sp dNil) := by
  obtain ⟨f, fd, F, m, kp, b⟩ := G.ex
  exact de_call0 F (hr.mono hj) hg m kp b hdb
end
/-- from what the top has written -/
theorem top_mk {K : PySem.W.Frag} {h : Heap} {mg : Str → Option Value} (X : K.In h) (G : h.Ns mainGlobals mg) {x qual : Str} {st : Stmt} {ps : List Str} {f : Addr} {oc : Value} {od an : Option Addr} {osl : Array (Option Value)} {kV doc pm cdv ct : Value}
    (a : PySem.W.nsIn K mainGlobals x = some (some (.ref f))) (l : K.lookup f = some ⟨oc, od, .func (PySem.W.fnOf x qual (defArgs st) (defBody st) (defScope st) .none kV doc pm an cdv ct), osl⟩)
    (c : PySem.W.codeIn K cdv qual = true) (k : PySem.W.keepIn K (.ref f) = true)
    (b : ∀ (kV doc pm : Value) (an : Option Addr) (cdv ct : Value) (us : List Value), us.length = ps.length → bindArgs (PySem.W.fnOf x qual (defArgs st) (defBody st) (defScope st) .none kV doc pm an cdv ct) ⟨us, []⟩ = pure (ps.zip us)) : TopF K mg x qual st ps :=
  have F := fun_mk (st := st) l c k
  ⟨f, _, F, PySem.W.mg_of X G a, F.binds b⟩
/-- the law's own end -/
def spLaw : P1 := fun ds h Q => ∃ ns : List Int, ds = [.rol (ns.map D.int)] ∧ ns.length ≤ 63 ∧ ∀ h', Q (.bool true) h'
theorem rol_of {K : KW} {H : Hp} (o : Only H) {a : Addr} {xs : List V} (s : SqL K.F H a xs) : ROL K H a xs := by
  rcases s with (s | ⟨ob, s⟩) | s
  · rcases o a with n | ⟨_, _, n⟩ <;> (rw [n] at s; cases s)
  · exact .inl ⟨ob, s⟩
  · exact .inr s
theorem reps_ints {K : KW} {H : Hp} : ∀ ns : List Int, RepVs K H (ns.map D.int) (ns.map V.int)
  | [] => rfl
  | n :: r => ⟨_, _, rfl, rfl, reps_ints r⟩
/-- the law's promise, whatever the world -/
def lowS0 (K : PySem.W.Frag) : Sp := fun vs H Q E => ∀ w, lowP ⟨K, w⟩ spLaw vs H Q E
theorem law_start0 {K : KW} {H : Hp} {a : Addr} {ns : List Int} (hl : ns.length ≤ 63) (o : Only H) (s : SqL K.F H a (ns.map V.int)) : lowP K spLaw [.ref a] H (fun v _ => v = .bl true) fun _ _ _ => False := by
  refine ⟨[.rol (ns.map D.int)], fun _ => none, fun d _ => d = .bool true, ⟨_, _, rfl, ⟨a, _, rfl, rol_of o s, reps_ints ns⟩, rfl⟩, (fun a o e => nomatch e), ⟨ns, rfl, hl, fun _ => rfl⟩, fun d h' v H' _ _ r q => ?_⟩
  subst q
  exact r
theorem law_start {K : PySem.W.Frag} {H : Hp} {a : Addr} {ns : List Int} (hl : ns.length ≤ 63) (o : Only H) (s : SqL K H a (ns.map V.int)) : lowS0 K [.ref a] H (fun v _ => v = .bl true) fun _ _ _ => False := fun w => law_start0 (K := ⟨K, w⟩) hl o s
theorem good_end {P : Program} {w : World} {K : PySem.W.Frag} {mg : Str → Option Value} {base : Heap} {k : Nat} {x : Str} {ps : List Str} {sp : P1} {st : Stmt} {qual : Str} {f : Addr} {oc : Value} {od an : Option Addr} {osl : Array (Option Value)} {kV doc pm cdv ct : Value} (G : Good P w K mg base k x ps sp) (m : mg x = some (.ref f)) :
    ∃ fd, FnG P w K mg base k f fd ps (lowP ⟨K, w⟩ sp) ∧ L2.Binds K fd ps [] := by
  obtain ⟨g, fd, F, m', kp, b⟩ := G.ex
  rw [m] at m'
  cases m'
  exact ⟨fd, F, b⟩
end DL
namespace DL
open PySem PySem.Spec PyProof.Rows L2
/-! ### dict displays -/
section
variable {K : KW} {h : MH} {H : Hp} {l : Addr}
/-- what stood hidden is shown -/
theorem rep_layO (r : RepH K h H) (n : h l = none) {o0 o : HO} (e0 : H l = some o0) (hd : DL.hid o0 = false) {u : MO} (x : RepO K (upd H l o) l u) : RepH K (up h l u) (upd H l o) := fun a w e => by
  have m : Mo K H (upd H l o) := Mo.upd e0 hd
  by_cases q : a = l
  · subst q
    rw [up_same] at e; cases e
    exact x
  · rw [up_ne q] at e
    exact (r a w e).mono m fun x f => by rw [upd_ne q]; exact f
end
theorem dic_K {K : KW} {H : Hp} {a : Addr} {kvs : Kvs} {kv : List (L2.Key × V)} (e : H a = some (.dK kv)) (r : RepKs K H kvs kv) : RepO K H a (.dic kvs) := Or.inl ⟨kv, e, r⟩
def dDic0 : E1 := fun _ h Q => ∀ p, h p = none → Q (.ref p) (up h p (.dic []))
def dPairs : List (E1 × E1) → Sl → MH → (Kvs → MH → Prop) → Prop
  | [], _, h, Q => Q [] h
  | (tk, tv) :: r, σ, h, Q => tk σ h fun x h1 => tv σ h1 fun y h2 => dPairs r σ h2 fun ps h3 => Q ((x, y) :: ps) h3
def dmerge (acc more : Kvs) : Kvs := more.foldl (fun a p => dset a p.1 p.2) acc
def dDisp (trs : List (E1 × E1)) : E1 := fun σ h Q => dPairs trs σ h fun ps h1 => ps.all (fun p => (scaK p.1).isSome) = true ∧ ps.length ≤ 15 ∧ ∀ p, h1 p = none → Q (.ref p) (up h1 p (.dic (dmerge [] ps)))
section
variable {X : Cx}
theorem de_dic0 {pos : Pos} : DE X (.Dict [] [] pos) dDic0 := weakE pe_dnewK fun σV H QV ⟨σ, h, Q, hE, hH, ht, hc⟩ p np =>
  hc (.ref p) _ _ _ (Stp.new np) (hH.newO np (dic_K upd_same .nil)) rfl (ht p (hH.nofresh np))
theorem merge_rep {K : KW} {H : Hp} : ∀ {more acc : Kvs} {kv : List (L2.Key × V)} {mv : List (L2.Key × V)}, RepKs K H acc kv → RepKs K H more mv → RepKs K H (dmerge acc more) (mergeK kv mv)
  | _, _, _, _, a, .nil => a
  | _, acc, kv, _, a, .cons (a := p) (b := x) (l₁ := ps) (l₂ := xs) q t => by
    show RepKs K H (dmerge (dset acc p.1 p.2) ps) (mergeK (putK kv x.1 x.2) xs)
    exact merge_rep (dset_K a q.1 q.2.1 q.2.2) t
theorem pairs_low {trs : List (E1 × E1)} : ∀ {σ : Sl} {σV : L2.St} {h : MH} {H : Hp} {Q : Kvs → MH → Prop} {QV : List (V × V) → Hp → Prop}, RepE X.kw H σ σV → RepH X.kw h H → dPairs trs σ h Q →
    (∀ ps h' vs H', Stp h H h' H' → RepH X.kw h' H' → Paired (fun (p : D × D) (q : V × V) => RepV X.kw H' p.1 q.1 ∧ RepV X.kw H' p.2 q.2) ps vs → Q ps h' → QV vs H') → tPairs (trs.map fun t => (lowE X.kw t.1, lowE X.kw t.2)) σV H QV := by
  induction trs with
  | nil => exact fun hE hH ht hc => hc [] _ [] _ Stp.refl hH .nil ht
  | cons t r ih =>
    intro σ σV h H Q QV hE hH ht hc
    refine ⟨σ, h, _, hE, hH, ht, fun x h1 v H1 s1 hH1 r1 q1 => ⟨σ, h1, _, hE.mono (Stp.mo hH s1), hH1, q1, fun y h2 u H2 s2 hH2 r2 q2 => ?_⟩⟩
    refine ih ((hE.mono (Stp.mo hH s1)).mono (Stp.mo hH1 s2)) hH2 q2 fun ps h3 vs H3 s3 hH3 rp q3 => ?_
    exact hc _ h3 _ H3 (s1.trans (s2.trans s3)) hH3 (.cons ⟨RepV.mono ((Stp.mo hH1 s2).trans (Stp.mo hH2 s3)) _ r1, RepV.mono (Stp.mo hH2 s3) _ r2⟩ rp) q3
theorem keys_low {K : KW} {H : Hp} : ∀ {ps : Kvs} {vs : List (V × V)}, Paired (fun (p : D × D) (q : V × V) => RepV K H p.1 q.1 ∧ RepV K H p.2 q.2) ps vs → ps.all (fun p => (scaK p.1).isSome) = true → ∃ kv : List (L2.Key × V), vs = kv.map (fun x => (kV x.1, x.2)) ∧ RepKs K H ps kv
  | _, _, .nil, _ => ⟨[], rfl, .nil⟩
  | _, _, @Paired.cons _ _ _ p q _ _ r t, a => by
    rw [List.all_cons, Bool.and_eq_true] at a
    obtain ⟨kv, e, rk⟩ := keys_low t a.2
    obtain ⟨k, ek⟩ := Option.isSome_iff_exists.mp a.1
    have ev := sca_rep r.1 ek
    refine ⟨(k, q.2) :: kv, ?_, .cons ⟨ek, by rw [← ev]; exact r.1, r.2⟩ rk⟩
    rw [e, List.map_cons, ← ev]
theorem de_disp {pos : Pos} {keys : List (Option Expr)} {values : List Expr} {trs : List (E1 × E1)} (p : PPs X pos keys values (trs.map fun t => (lowE X.kw t.1, lowE X.kw t.2))) (hall : keys.all (·.isSome) = true) (hl : keys.length = values.length) (h0 : keys ≠ []) (h15 : keys.length ≤ 15) :
    DE X (.Dict keys values pos) (dDisp trs) := weakE (pe_disp p hall hl h0 h15) fun σV H QV ⟨σ, h, Q, hE, hH, ht, hc⟩ a na => by
  have m : Mo X.kw H (upd H a (.dK [])) := Stp.mo hH (Stp.hide na)
  refine pairs_low (hE.mono m) (hH.hide na) ht fun ps h1 vs H1 s1 hH1 rp ⟨al, l15, q⟩ => ?_
  obtain ⟨n1, e1⟩ := s1 a (.dK []) (hH.nofresh na) upd_same
  obtain ⟨kv, ev, rk⟩ := keys_low rp al
  refine ⟨e1, kv, ev, by rw [← rk.length]; exact l15, ?_⟩
  have m1 : Mo X.kw H1 (upd H1 a (.dK (mergeK [] kv))) := Mo.upd e1 rfl
  have hide : Stp h H h (upd H a (.dK [])) := Stp.hide na
  refine hc (.ref a) _ _ _ ?_ (rep_layO hH1 n1 e1 rfl (dic_K upd_same ((merge_rep .nil rk).mono m1))) rfl (q a n1)
  intro b o eb fb
  have nb : b ≠ a := fun z => by rw [z, na] at fb; cases fb
  obtain ⟨x1, x2⟩ := (hide.trans s1) b o eb fb
  exact ⟨by rw [up_ne nb]; exact x1, by rw [upd_ne nb]; exact x2⟩
/-! ### a < b < c -/
theorem low_chain {r r' : R1} {ta tb tc : E1} {σV : L2.St} {H : Hp} {QV : VK} (h : lowE X.kw (dChain r r' ta tb tc) σV H QV) : tChain (lowR X.kw r) (lowR X.kw r') (lowE X.kw ta) (lowE X.kw tb) (lowE X.kw tc) σV H QV := by
  obtain ⟨σ, h, Q, hE, hH, ht, hc⟩ := h
  refine ⟨σ, h, _, hE, hH, ht, fun x h1 v1 H1 s1 hH1 r1 q1 => ⟨σ, h1, _, hE.mono (Stp.mo hH s1), hH1, q1, fun y h2 v2 H2 s2 hH2 r2 q2 => ?_⟩⟩
  have m1 := Stp.mo hH s1
  have m2 := Stp.mo hH1 s2
  refine ⟨x, y, h2, _, RepV.mono m2 _ r1, r2, hH2, q2, fun d h3 v3 H3 s3 hH3 r3 q3 => ?_⟩
  have m3 := Stp.mo hH2 s3
  cases d with
  | bool k =>
    refine ⟨k, r3, ?_⟩
    have q3 : if k = true then tc σ h3 fun z h4 => r' y z h4 Q else Q (.bool false) h3 := q3
    cases k with
    | false =>
      rw [if_neg Bool.false_ne_true] at q3 ⊢
      exact hc (.bool false) h3 _ H3 (s1.trans (s2.trans s3)) hH3 rfl q3
    | true =>
      rw [if_pos rfl] at q3 ⊢
      refine ⟨σ, h3, _, ((hE.mono m1).mono m2).mono m3, hH3, q3, fun z h4 v4 H4 s4 hH4 r4 q4 => ?_⟩
      exact ⟨y, z, h4, Q, RepV.mono (m3.trans (Stp.mo hH3 s4)) _ r2, r4, hH4, q4, hc.step (s1.trans (s2.trans (s3.trans s4)))⟩
  | _ => exact q3.elim
theorem de_chain {op op' : CmpOp} {r r' : R1} {a b c : Expr} {ta tb tc : E1} {pos : Pos} (ho : OpR X (compareOp op) (lowR X.kw r)) (ho' : OpR X (compareOp op') (lowR X.kw r')) (ha : DE X a ta) (hb : DE X b tb) (hcc : DE X c tc)
    (hm : lastMarks [op, op'] [b, c] = false := by with_unfolding_all rfl) : DE X (.Compare a [op, op'] [b, c] pos) (dChain r r' ta tb tc) := weakE (pe_chain ho ho' ha hb hcc hm) fun _ _ _ h => low_chain h
theorem dt_chain {op op' : CmpOp} {r r' : R1} {a b c : Expr} {ta tb tc : E1} {pos : Pos} (ho : OpR X (compareOp op) (lowR X.kw r)) (ho' : OpR X (compareOp op') (lowR X.kw r')) (ha : DE X a ta) (hb : DE X b tb) (hcc : DE X c tc)
    (hm : lastMarks [op, op'] [b, c] = false := by with_unfolding_all rfl) : DT X (.Compare a [op, op'] [b, c] pos) (dTest (dChain r r' ta tb tc)) :=
  weakT (pt_chain ho ho' ha hb hcc hm) fun σV H QV ⟨σ, h, Q, hE, hH, ht, hc⟩ => low_chain ⟨σ, h, asB Q, hE, hH, ht, asB_cl hc⟩
/-! ### i.bit_length() -/
def bitsD (x : D) (h : MH) (Q : KD) : Prop := match x with
  | .int i => Q (.int (Builtin.Int.intBits i : Nat)) h
  | _ => False
theorem de_bits {o : Expr} {to : E1} {apos pos : Pos} (ho : DE X o to) (hbase : attributeBase o "bit_length" X.env (eval o X.env) = eval o X.env := by rfl) (hline : (apos.endLine == pos.line) = true := by rfl) : DE X (.Call (.Attribute o "bit_length" apos) [] [] pos) (dUn bitsD to) :=
  weakE (pe_bits ho hbase hline) fun σV H QV ⟨σ, h, Q, hE, hH, ht, hc⟩ => ⟨σ, h, _, hE, hH, ht, fun d h' v H' s' r' rv q => by
    cases d with
    | int i => exact ⟨i, rv, (hc.step s').int r' q⟩
    | _ => exact q.elim⟩
/-! ### range with a step -/
def rgC (lo c : Int) (n : Nat) : List D := (List.range n).map fun i => .int (lo + (i : Nat) * c)
theorem src_rngC {K : KW} {H1 : Hp} {h1 : MH} {lo c : Int} {n : Nat} : SrcOk K (Itc lo c n) (rgC lo c n) (fun _ => True) h1 H1 := by
  have len : (rgC lo c n).length = n := by unfold rgC; rw [List.length_map, List.length_range]
  refine ⟨fun h H i _ _ _ hi => ?_, fun h H i v H' _ rh _ hi y => ?_, fun h H _ _ _ => ?_⟩
  · show i < n
    rw [← len]; exact hi
  · obtain ⟨rfl, rfl⟩ := y
    rw [len] at hi
    refine ⟨.int (lo + (i : Nat) * c), ?_, rfl, Stp.refl, rh⟩
    unfold rgC
    rw [List.getElem?_map, List.getElem?_range hi]; rfl
  · show n ≤ (rgC lo c n).length
    rw [len]; exact Nat.le_refl _
def rg3 (ds : List D) (h : MH) (Q : List D → (MH → Prop) → MH → Prop) : Prop := match ds with
  | [.int i, .int j, .int c] => ∃ n, RgC i j c n ∧ Q (rgC i c n) (fun _ => True) h
  | _ => False
def iRg3 (ta : A1) : I1 := fun σ h Q => ta σ h fun ds h1 => rg3 ds h1 Q
theorem rg3_inv {ds : List D} {h : MH} {Q : List D → (MH → Prop) → MH → Prop} (q : rg3 ds h Q) : ∃ i j c n, ds = [.int i, .int j, .int c] ∧ RgC i j c n ∧ Q (rgC i c n) (fun _ => True) h := by
  unfold rg3 at q
  split at q
  · obtain ⟨n, a, b⟩ := q; exact ⟨_, _, _, n, rfl, a, b⟩
  · exact q.elim
theorem di_range3 {tg a b c : Expr} {ta : A1} {p pos : Pos} (hg : Gl X "range") (hm : X.mg "range" = none) (ha : DA X [a, b, c] ta) (hs : starEach [a, b, c] X.env = (false, eval a X.env) :: starEach [b, c] X.env := by rfl) (hpl : (backTo pos (starEach [b, c] X.env)).any (·.1) = false := by rfl) :
    DI X tg (.Call (.Name "range" p) [a, b, c] [] pos) (iRg3 ta) :=
  weakI (pi_range3 hg hm ha hs hpl) fun σV H R ⟨σ, h, Q, hE, hH, ht, hc⟩ => ⟨σ, h, _, hE, hH, ht, fun ds h' vs H' s' r' rv q => by
    obtain ⟨i, j, c, n, rfl, b, q⟩ := rg3_inv q
    obtain ⟨v, r, rfl, r1, v2, r2, rfl, r3, v3, r4, rfl, r5, r6⟩ := rv
    cases (show v = _ from r1)
    cases (show v2 = _ from r3)
    cases (show v3 = _ from r5)
    cases (show r4 = [] from r6)
    exact ⟨i, j, c, n, rfl, b, hc _ _ _ _ _ s' r' src_rngC q⟩⟩
end
end DL
namespace DL
open PySem PySem.Spec PyProof.Rows L2
/-! ### enumerate(tuple) -/
open Sem (wp) in
open AutoSeq1 (wpAny_loadPart') in
theorem meets_enum_tup (l : Addr) (items : Array Value) (n : Nat) (dct : Option Addr) (sl : Array (Option Value)) :
    Meets (Builtin.«enumerate.__new__» ⟨[.type "enumerate", .ref l], []⟩) (fun _ R s => s.heap.get? l = some ⟨.type "tuple", dct, .seq items n, sl⟩ ∧
      R (.ok (.ret (.ref (s.heap.push { cls := .type "tuple_iterator", data := .fields #[.ref l, .int 0 0] }).objs.size)))
        { s with heap := (s.heap.push { cls := .type "tuple_iterator", data := .fields #[.ref l, .int 0 0] }).push { cls := .type "enumerate", data := .fields #[.none, .bool false, .ref s.heap.objs.size, rawInt 0, .none, .none] } }) :=
  .of_wp fun prog w A R s z => by
    obtain ⟨hp, g, d, tk, os⟩ := s; obtain ⟨hl, h⟩ := z
    have sub := sub_enumerate
    have T : Heap.IsTuple (Shared.heap ⟨hp, g, d, tk, os⟩) l items := ⟨_, hl, rfl, n, rfl⟩
    wp_walk using wpAny_loadPart' hl
    refine wpAny_stack_any fun st => wpAny_pure ?_; split
    · rename_i c _ _ _ _ _
      cases (c == Value.type "enumerate") <;> (wp_walk using wpAny_loadPart' hl, wpAny_pyIter_tuple T; exact ⟨_, rfl, h⟩)
    · (wp_walk using wpAny_loadPart' hl, wpAny_pyIter_tuple T); exact ⟨_, rfl, h⟩
theorem call_enum_tup {prog : Program} {w : World} {A : Around} {E : Value → Shared → Prop} {s : Shared} {l : Addr} {items : Array Value} {Q : Value → Shared → Prop} (T : s.heap.IsTuple l items)
    (h : ∀ h', IsEnum h' (s.heap.objs.size + 1) s.heap.objs.size 0 .none → h'.IsTupleIter s.heap.objs.size l 0 → (∀ b o, s.heap.get? b = some o → h'.get? b = some o) → Q (.ref (s.heap.objs.size + 1)) { s with heap := h' }) :
    wpAny (model prog w) A (call (.type "enumerate") [.ref l]) Q E s := by
  obtain ⟨⟨c, dct, dt, sl⟩, hl, hc, n, hd⟩ := T
  cases (show c = .type "tuple" from hc)
  cases (show dt = .seq items n from hd)
  refine callType_new F.called_enumerate (by decide) (F.typeCall_enumerate_1 _) (F.newCall_enumerate_1 _) (fun obj => F.args_object_init_2 obj _) F.entry_enumerate_new (meets_enum_tup l items n dct sl) ⟨hl, ?_⟩
  have hz : (s.heap.push { cls := .type "tuple_iterator", data := .fields #[.ref l, .int 0 0] }).objs.size = s.heap.objs.size + 1 := Heap.size_push ..
  show _ ∧ _
  rw [hz]
  have he := Heap.get?_push_size (s.heap.push { cls := .type "tuple_iterator", data := .fields #[.ref l, .int 0 0] }) (o := { cls := .type "enumerate", data := .fields #[.none, .bool false, .ref s.heap.objs.size, rawInt 0, .none, .none] }) rfl
  rw [hz] at he
  exact ⟨⟨_, he, rfl⟩, h _ he ⟨_, Heap.get?_push_of_some _ (Heap.get?_push_size _ rfl), rfl, rfl⟩ fun b o x => Heap.get?_push_of_some _ (Heap.get?_push_of_some _ x)⟩
/-- the tuple at a, each item in a new pair with its place -/
def IteT (K : PySem.W.Frag) (a : Addr) : It :=
  ⟨fun i H => ∃ (xs : List V) (x : V), SqT K H a xs ∧ xs[i]? = some x, fun i H v H' => ∃ T x, v = .ref T ∧ H T = none ∧ H' = upd H T (.tup [.int (i : Nat), x]) ∧ ∀ xs, SqT K H a xs → xs[i]? = some x, fun i H => ∃ xs : List V, SqT K H a xs ∧ xs.length = i⟩
theorem tup_apart {h : Heap} {a e it : Addr} {items : Array Value} {j : Int} {old : Value} {i : Nat} (T : h.IsTuple a items) (he : IsEnum h e it j old) (hi : h.IsTupleIter it a i) : a ≠ e ∧ a ≠ it := by
  obtain ⟨o, e1, c1, _⟩ := T
  obtain ⟨o2, e2, c2, _⟩ := hi
  refine ⟨fun z => ?_, fun z => ?_⟩
  · subst z; rw [he] at e1; cases e1; exact absurd (Value.type.inj c1) (by decide)
  · subst z; rw [e1] at e2; cases e2; rw [c1] at c2; exact absurd (Value.type.inj c2) (by decide)
theorem turn_enumT {P : Program} {w : World} {K : PySem.W.Frag} {elts : List Expr} {kk : Nat} {tpos : Pos} (a e it : Addr) :
    Turn P w K (.Tuple elts kk tpos) (IteT K a) [e, it] e (fun i h => (∃ old, IsEnum h e it ((i : Nat) : Int) old) ∧ h.IsTupleIter it a i ∧ e ≠ it) where
  mem := by simp
  obj := fun i h ⟨⟨old, he⟩, ⟨o, ho, hc, hd⟩, _⟩ b hb => by
    rcases (show b = e ∨ b = it by simpa using hb) with z | z
    · rw [z]; exact ⟨_, he, fun v q => nomatch q⟩
    · rw [z]; exact ⟨o, ho, fun v q => by rw [hd] at q; cases q⟩
  keep := fun i h h' ⟨⟨old, he⟩, hi, hne⟩ k => ⟨⟨old, k e (by simp) _ he⟩, hi.at fun o q => k it (by simp) o q, hne⟩
  item := by
    intro X hP hw hK hc i pins s σ H E I hf ⟨⟨old, he⟩, hit, hne⟩ ⟨xs, x, hq, hx⟩
    subst hP hw hK
    obtain ⟨its, rv, p, hz⟩ := I.tuple hq
    have T : s.heap.IsTuple a its.toArray := p
    obtain ⟨u, hu, ru⟩ := rv.get hx
    obtain ⟨ae, ai⟩ := tup_apart T he hit
    have lts : e < s.heap.objs.size ∧ it < s.heap.objs.size := ⟨Heap.lt_size he, let ⟨_, q, _⟩ := hit; Heap.lt_size q⟩
    have hlt : i < its.toArray.size := by
      have := (List.getElem?_eq_some_iff.mp hu).1
      simpa using this
    refine wpAny_pyNext_enum_itemD (Draws.tuple (A := X.A.in1) (show X.A.in1.handled = none from I.ok.hd hc) it a ai its.toArray) he ⟨hit, T⟩ hlt hne (by simp [hne, Ne.symm ae]) fun x' h' tk px ho st' hT hsz hk => ?_
    have ex : x' = u := by
      have px : its.toArray[i]? = some x' := px
      rw [List.getElem?_toArray, hu] at px
      exact (Option.some.inj px).symm
    subst ex
    refine ⟨_, rfl, wpAny_letOwnedTupleGo_enum (s := { s with heap := h', toks := tk + 1 }) ho fun h'' he' sb => ?_⟩
    have hT2 : h''.get? s.heap.objs.size = some { cls := .type "tuple", data := .seq #[.int i tk, x'] } := (sb.2 _ (Nat.ne_of_gt lts.1)).trans hT
    have I1 : Inv X pins σ (upd H s.heap.objs.size (.tup [.int (i : Nat), x])) { s with heap := h'', toks := tk + 1 } :=
      I.turnedNew (ch := [e, it]) (fun b ob hb q => (sb.2 b (fun z => hb (by simp [z]))).trans (hk b ob (fun z => hb (by simp [z])) (fun z => hb (by simp [z])) q)) hf (Nat.le_refl _)
        ⟨by show 2 ≤ sizeLine; decide, [.int i tk, x'], .cons ⟨_, rfl⟩ (.cons ru .nil), ⟨_, hT2, rfl, _, rfl⟩⟩
    refine ⟨.ref s.heap.objs.size, _, I1, rfl, ⟨_, x, rfl, I.hok.fresh (Nat.le_refl _), rfl, fun ys hy => by rw [I.tuple_inj hy hq]; exact hx⟩, ⟨⟨x', ?_⟩, st'.1.at fun o q => (sb.2 it (Ne.symm hne)).trans q, hne⟩, fun b hb => ?_⟩
    · rw [show ((i + 1 : Nat) : Int) = (i : Int) + 1 by omega]; exact he'
    · have hb' : b < s.heap.objs.size := (show b = e ∨ b = it by simpa using hb).elim (fun z => by rw [z]; exact lts.1) fun z => by rw [z]; exact lts.2
      rw [upd_ne (Nat.ne_of_lt hb')]
      exact (hf b hb).1
  done := by
    intro X hP hw hK hc i pins s σ H E I hf ⟨⟨old, he⟩, hit, hne⟩ ⟨xs, hq, hx⟩
    subst hP hw hK
    obtain ⟨its, rv, p, hz⟩ := I.tuple hq
    have T : s.heap.IsTuple a its.toArray := p
    obtain ⟨f0, f1, f2, f3, f4, f5⟩ := hf it (by simp)
    have hn : i = its.toArray.size := by rw [List.size_toArray, ← rv.length]; exact hx.symm
    refine wpAny_pyNext_enum_endD (Draws.tuple (A := X.A.in1) (show X.A.in1.handled = none from I.ok.hd hc) it a (tup_apart T he hit).2 its.toArray) he (by rw [← hn]; exact ⟨hit, T⟩) fun h' eb => ⟨rfl, I.turned (t' := s.toks) (fun b o hb q => eb b o hb q) f0 f1 f3 f4 f5⟩
  self := fun A i s Q E ⟨⟨_, he⟩, _⟩ h => wpAny_pyIter_enum he h
def iEnumT (K : PySem.W.Frag) (ta : TA) : TI := fun σ H R => ta σ H fun vs H1 => ∃ a xs, vs = [.ref a] ∧ ((SqL K H1 a xs ∧ R (Ite K a) H1) ∨ (SqT K H1 a xs ∧ R (IteT K a) H1))
theorem pi_enumT {X : Cx} {e : Expr} {ta : TA} {p pos tpos : Pos} {elts : List Expr} {kk : Nat} (hg : Gl X "enumerate") (hm : X.mg "enumerate" = none) (ha : PA X [e] ta) (hs : starEach [e] X.env = [(false, eval e X.env)] := by rfl) :
    PI X (.Tuple elts kk tpos) (.Call (.Name "enumerate" p) [e] [] pos) (iEnumT X.K ta) := by
  refine ⟨fun pins s σ H R I h => Call_ (ld_blt I hg hm boot_enumerate (PyProof.Rows.callWith_type1 (thn (ha.run pos pins s σ H _ I h) fun us s1 ⟨vs, H1, I1, r1, a, xs, ex, q⟩ => ?_) hs rfl))⟩
  subst ex
  cases r1 with
  | cons r rr =>
    cases rr; cases r
    have fp : ∀ b ∈ [s1.heap.objs.size + 1, s1.heap.objs.size], s1.heap.objs.size ≤ b := fun b hb => (show b = s1.heap.objs.size + 1 ∨ b = s1.heap.objs.size by simpa using hb).elim (fun z => by rw [z]; exact Nat.le_add_right _ _) fun z => by rw [z]; exact Nat.le_refl _
    rcases q with ⟨hq, q⟩ | ⟨hq, q⟩
    · obtain ⟨its, rv, p', hz⟩ := I1.list hq
      exact call_enumerate_list p'.isList fun h' he hit hsz hk => wpAny_pyIter_enum he ⟨s1.heap.objs.size + 1, [s1.heap.objs.size + 1, s1.heap.objs.size], _, _, H1, rfl, I1.kept (t' := s1.toks) hk, turn_enum a _ _, ⟨⟨.none, he⟩, hit, Nat.succ_ne_self _⟩, fun b hb => I1.fpOk (fp b hb) (I1.hok.fresh (fp b hb)), q⟩
    · obtain ⟨its, rv, p', hz⟩ := I1.tuple hq
      exact call_enum_tup (show s1.heap.IsTuple a its.toArray from p') fun h' he hit hk => wpAny_pyIter_enum he ⟨s1.heap.objs.size + 1, [s1.heap.objs.size + 1, s1.heap.objs.size], _, _, H1, rfl, I1.kept (t' := s1.toks) hk, turn_enumT a _ _, ⟨⟨.none, he⟩, hit, Nat.succ_ne_self _⟩, fun b hb => I1.fpOk (fp b hb) (I1.hok.fresh (fp b hb)), q⟩
end DL
namespace DL
open PySem PySem.Spec PyProof.Rows L2
/-! ### enumerate, zip as sources -/
def enD : Nat → List D → List D
  | _, [] => []
  | n, x :: r => .tup [.int n, x] :: enD (n + 1) r
theorem enD_get : ∀ (xs : List D) (n i : Nat), (enD n xs)[i]? = (xs[i]?).map fun x => .tup [.int ((n + i : Nat) : Int), x]
  | [], _, _ => by simp [enD]
  | x :: r, n, 0 => rfl
  | x :: r, n, i + 1 => by
    rw [enD, List.getElem?_cons_succ, List.getElem?_cons_succ, enD_get r (n + 1) i]
    have e : n + 1 + i = n + (i + 1) := by omega
    rw [e]
theorem enD_len : ∀ (xs : List D) (n : Nat), (enD n xs).length = xs.length
  | [], _ => rfl
  | x :: r, n => by rw [enD, List.length_cons, List.length_cons, enD_len r (n + 1)]
def zpD : List D → List D → List D
  | x :: r, y :: t => .tup [x, y] :: zpD r t
  | _, _ => []
theorem zpD_get : ∀ (xs ys : List D) (i : Nat) (x y : D), xs[i]? = some x → ys[i]? = some y → (zpD xs ys)[i]? = some (.tup [x, y])
  | x :: r, y :: t, 0, _, _, e1, e2 => by cases e1; cases e2; rfl
  | x :: r, y :: t, i + 1, a, b, e1, e2 => by
    rw [List.getElem?_cons_succ] at e1 e2
    rw [zpD, List.getElem?_cons_succ]; exact zpD_get r t i a b e1 e2
  | [], _, _, _, _, e1, _ => by simp at e1
  | _ :: _, [], _, _, _, _, e2 => by simp at e2
theorem zpD_len : ∀ (xs ys : List D), (zpD xs ys).length = min xs.length ys.length
  | x :: r, y :: t => by rw [zpD, List.length_cons, List.length_cons, List.length_cons, zpD_len r t]; omega
  | [], _ => by simp [zpD]
  | _ :: _, [] => by simp [zpD]
theorem rep_lst {K : KW} {h : MH} {H : Hp} {a : Addr} {xs : List D} (r : RepH K h H) (e : stabO a xs h) : ∃ vs, H a = some (.lst vs) ∧ RepVs K H xs vs := r a (.lst xs) e
section
variable {K : KW}
/-- a new pair -/
theorem pair_rep {h : MH} {H : Hp} {T : Addr} {x y : V} {d e : D} (rh : RepH K h H) (nT : H T = none) (r1 : RepV K H d x) (r2 : RepV K H e y) :
    RepV K (upd H T (.tup [x, y])) (.tup [d, e]) (.ref T) ∧ Stp h H h (upd H T (.tup [x, y])) ∧ RepH K h (upd H T (.tup [x, y])) := by
  have m := Stp.mo rh (Stp.hide (o := .tup [x, y]) nT)
  exact ⟨⟨T, _, rfl, .inl (.inl upd_same), .cons (RepV.mono m _ r1) (.cons (RepV.mono m _ r2) .nil)⟩, Stp.hide nT, rh.hide nT⟩
theorem src_en {J : It} {H1 : Hp} {h1 : MH} {stab : MH → Prop} {xs : List D} {Sq : Hp → List V → Prop}
    (at_ : ∀ h H, Stp h1 H1 h H → RepH K h H → stab h → ∃ vs, Sq H vs ∧ RepVs K H xs vs)
    (go : ∀ i H vs v, Sq H vs → vs[i]? = some v → J.go i H) (yl : ∀ i H v H', J.yld i H v H' → ∃ T x, v = .ref T ∧ H T = none ∧ H' = upd H T (.tup [.int (i : Nat), x]) ∧ ∀ vs, Sq H vs → vs[i]? = some x) (st : ∀ H vs, Sq H vs → J.stop vs.length H) : SrcOk K J (enD 0 xs) stab h1 H1 := by
  refine ⟨fun h H i q rh sb hi => ?_, fun h H i v H' q rh sb hi y => ?_, fun h H q rh sb => ?_⟩
  · obtain ⟨vs, s, r⟩ := at_ h H q rh sb
    rw [enD_len] at hi
    obtain ⟨w, ew, _⟩ := P2.get r.pair (List.getElem?_eq_getElem hi)
    exact go i H vs w s ew
  · obtain ⟨vs, s, r⟩ := at_ h H q rh sb
    obtain ⟨T, x, rfl, nT, rfl, hx⟩ := yl i H v H' y
    obtain ⟨d, ed, rd⟩ := P2.get' r.pair (hx vs s)
    obtain ⟨a, b, c⟩ := pair_rep (d := .int (i : Nat)) (x := .int (i : Nat)) rh nT rfl rd
    exact ⟨_, by rw [enD_get, ed, Nat.zero_add]; rfl, a, b, c⟩
  · obtain ⟨vs, s, r⟩ := at_ h H q rh sb
    rw [enD_len, r.length]
    exact st H vs s
theorem src_zp {J : It} {H1 : Hp} {h1 : MH} {stab : MH → Prop} {xs ys : List D} {Sa Sb : Hp → List V → Prop}
    (at_ : ∀ h H, Stp h1 H1 h H → RepH K h H → stab h → ∃ vs us, Sa H vs ∧ RepVs K H xs vs ∧ Sb H us ∧ RepVs K H ys us)
    (go : ∀ i H vs us v u, Sa H vs → Sb H us → vs[i]? = some v → us[i]? = some u → J.go i H) (yl : ∀ i H v H', J.yld i H v H' → ∃ T x y, v = .ref T ∧ H T = none ∧ H' = upd H T (.tup [x, y]) ∧ (∀ vs, Sa H vs → vs[i]? = some x) ∧ ∀ us, Sb H us → us[i]? = some y)
    (st : ∀ H vs us, Sa H vs → Sb H us → J.stop (min vs.length us.length) H) : SrcOk K J (zpD xs ys) stab h1 H1 := by
  refine ⟨fun h H i q rh sb hi => ?_, fun h H i v H' q rh sb hi y => ?_, fun h H q rh sb => ?_⟩
  · obtain ⟨vs, us, s, r, s2, r2⟩ := at_ h H q rh sb
    rw [zpD_len] at hi
    obtain ⟨w, ew, _⟩ := P2.get r.pair (List.getElem?_eq_getElem (show i < xs.length by omega))
    obtain ⟨w2, ew2, _⟩ := P2.get r2.pair (List.getElem?_eq_getElem (show i < ys.length by omega))
    exact go i H vs us w w2 s s2 ew ew2
  · obtain ⟨vs, us, s, r, s2, r2⟩ := at_ h H q rh sb
    obtain ⟨T, x, y, rfl, nT, rfl, hx, hy⟩ := yl i H v H' y
    obtain ⟨d, ed, rd⟩ := P2.get' r.pair (hx vs s)
    obtain ⟨e, ee, re⟩ := P2.get' r2.pair (hy us s2)
    obtain ⟨a, b, c⟩ := pair_rep rh nT rd re
    exact ⟨_, zpD_get _ _ _ _ _ ed ee, a, b, c⟩
  · obtain ⟨vs, us, s, r, s2, r2⟩ := at_ h H q rh sb
    rw [zpD_len, r.length, r2.length]
    exact st H vs us s s2
end
def enO (a : Addr) (h : MH) (Q : List D → (MH → Prop) → MH → Prop) : Option MO → Prop
  | some (.lst xs) => Q (enD 0 xs) (stabO a xs) h
  | _ => False
def enK (ds : List D) (h : MH) (Q : List D → (MH → Prop) → MH → Prop) : Prop := match ds with
  | [.tup xs] => Q (enD 0 xs) (fun _ => True) h
  | [.ref a] => enO a h Q (h a)
  | _ => False
def iEn (ta : A1) : I1 := fun σ h Q => ta σ h fun ds h1 => enK ds h1 Q
def zpO (a b : Addr) (h : MH) (Q : List D → (MH → Prop) → MH → Prop) : Option MO → Option MO → Prop
  | some (.lst xs), some (.lst ys) => Q (zpD xs ys) (fun h => stabO a xs h ∧ stabO b ys h) h
  | _, _ => False
def zpK (ds : List D) (h : MH) (Q : List D → (MH → Prop) → MH → Prop) : Prop := match ds with
  | [.tup xs, .tup ys] => Q (zpD xs ys) (fun _ => True) h
  | [.ref a, .ref b] => zpO a b h Q (h a) (h b)
  | _ => False
def iZp (ta : A1) : I1 := fun σ h Q => ta σ h fun ds h1 => zpK ds h1 Q
section
variable {X : Cx}
theorem di_enum {e : Expr} {ta : A1} {p pos tpos : Pos} {elts : List Expr} {kk : Nat} (hg : Gl X "enumerate") (hm : X.mg "enumerate" = none) (ha : DA X [e] ta) (hs : starEach [e] X.env = [(false, eval e X.env)] := by rfl) :
    DI X (.Tuple elts kk tpos) (.Call (.Name "enumerate" p) [e] [] pos) (iEn ta) :=
  weakI (pi_enumT hg hm ha hs) fun σV H R ⟨σ, h, Q, hE, hH, ht, hc⟩ => ⟨σ, h, _, hE, hH, ht, fun ds h' vs H' s' r' rv q => by
    have q : enK ds h' Q := q
    unfold enK at q
    split at q
    · rename_i xs
      obtain ⟨v, r, rfl, r1, r2⟩ := rv
      cases (show r = [] from r2)
      obtain ⟨a, us, rfl, sq, ru⟩ := r1
      refine ⟨a, us, rfl, .inr ⟨sq, hc _ _ _ _ _ s' r' (src_en (Sq := fun H vs => SqT X.K H a vs) (fun h2 H2 q2 _ _ => ⟨us, (Stp.mo r' q2).t _ _ sq, RepVs.mono (Stp.mo r' q2) _ ru⟩) (fun i H vs v s e => ⟨vs, v, s, e⟩) (fun i H v H' y => y) fun H vs s => ⟨vs, s, rfl⟩) q⟩⟩
    · rename_i a _
      obtain ⟨v, r, rfl, r1, r2⟩ := rv
      cases (show r = [] from r2)
      cases (show v = .ref a from r1)
      cases e : h' a with
      | none => rw [e] at q; exact q.elim
      | some o =>
        rw [e] at q
        cases o with
        | lst xs =>
          obtain ⟨us, eH, ru⟩ := r' a _ e
          refine ⟨a, us, rfl, .inl ⟨SqL.of eH, hc _ _ _ _ _ s' r' (src_en (Sq := fun H vs => SqL X.K H a vs) (fun h2 H2 _ rh sb => let ⟨ws, e2, rw2⟩ := rep_lst rh sb; ⟨ws, SqL.of e2, rw2⟩) (fun i H vs v s e => ⟨vs, v, s, e⟩) (fun i H v H' y => y) fun H vs s => ⟨vs, s, Nat.le_refl _⟩) q⟩⟩
        | dic _ => exact q.elim
        | ins _ _ => exact q.elim
    · exact q.elim⟩
theorem di_zip {e e2 : Expr} {ta : A1} {p pos tpos : Pos} {elts : List Expr} {kk : Nat} (hg : Gl X "zip") (hm : X.mg "zip" = none) (ha : DA X [e, e2] ta)
    (hs : starEach [e, e2] X.env = (false, eval e X.env) :: starEach [e2] X.env := by rfl) (hpl : (backTo pos (starEach [e2] X.env)).any (·.1) = false := by rfl) :
    DI X (.Tuple elts kk tpos) (.Call (.Name "zip" p) [e, e2] [] pos) (iZp ta) :=
  weakI (RZ.pi_zipA hg hm ha hs hpl) fun σV H R ⟨σ, h, Q, hE, hH, ht, hc⟩ => ⟨σ, h, _, hE, hH, ht, fun ds h' vs H' s' r' rv q => by
    have q : zpK ds h' Q := q
    unfold zpK at q
    split at q
    · rename_i xs ys
      obtain ⟨v, r, rfl, r1, v2, r2, rfl, r3, r4⟩ := rv
      cases (show r2 = [] from r4)
      obtain ⟨a, us, rfl, sq, ru⟩ := r1
      obtain ⟨b, ws, rfl, sq2, rw2⟩ := r3
      refine ⟨a, b, us, ws, rfl, .inr ⟨sq, sq2, hc _ _ _ _ _ s' r' (src_zp (Sa := fun H vs => SqT X.K H a vs) (Sb := fun H vs => SqT X.K H b vs) (fun h2 H2 q2 _ _ => ⟨us, ws, (Stp.mo r' q2).t _ _ sq, RepVs.mono (Stp.mo r' q2) _ ru, (Stp.mo r' q2).t _ _ sq2, RepVs.mono (Stp.mo r' q2) _ rw2⟩)
        (fun i H vs us v u s s2 e e2 => ⟨vs, us, v, u, s, s2, e, e2⟩) (fun i H v H' y => y) fun H vs us s s2 => ⟨vs, us, s, s2, by omega⟩) q⟩⟩
    · rename_i a b _
      obtain ⟨v, r, rfl, r1, v2, r2, rfl, r3, r4⟩ := rv
      cases (show r2 = [] from r4)
      cases (show v = .ref a from r1)
      cases (show v2 = .ref b from r3)
      have q : zpO a b h' Q (h' a) (h' b) := q
      cases e : h' a with
      | none => rw [e] at q; exact (show False from q).elim
      | some o =>
        cases f : h' b with
        | none => rw [e, f] at q; cases o <;> exact (show False from q).elim
        | some o2 =>
          rw [e, f] at q
          cases o <;> cases o2 <;> first | (exact (show False from q).elim) | skip
          rename_i xs ys
          obtain ⟨us, eH, ru⟩ := r' a _ e
          obtain ⟨ws, fH, rw2⟩ := r' b _ f
          refine ⟨a, b, us, ws, rfl, .inl ⟨SqL.of eH, SqL.of fH, hc _ _ _ _ _ s' r' (src_zp (Sa := fun H vs => SqL X.K H a vs) (Sb := fun H vs => SqL X.K H b vs) (fun h2 H2 _ rh sb => let ⟨x1, e2, x2⟩ := rep_lst rh sb.1; let ⟨y1, f2, y2⟩ := rep_lst rh sb.2; ⟨x1, y1, SqL.of e2, x2, SqL.of f2, y2⟩)
            (fun i H vs us v u s s2 e e2 => ⟨vs, us, v, u, s, s2, e, e2⟩) (fun i H v H' y => y) fun H vs us s s2 => ⟨vs, us, s, s2, by omega⟩) q⟩⟩
    · exact q.elim⟩
end
end DL
namespace DL
open PySem PySem.Spec PyProof.Rows L2
/-! ### repr: its signs are signs -/
def okC (x : Str) : Prop := PyData.strOk x = true
theorem okC_iff {x : Str} : okC x ↔ ∀ c ∈ x.cps.toList, c < 0x110000 := by
  unfold okC PyData.strOk
  rw [← Array.all_toList, List.all_eq_true]
  simp
theorem okC.app {x y : Str} (a : okC x) (b : okC y) : okC (x ++ y) := by
  rw [okC_iff] at a b ⊢
  intro c hc
  have hc : c ∈ (x.cps ++ y.cps).toList := hc
  rw [Array.toList_append, List.mem_append] at hc
  exact hc.elim (a c) (b c)
theorem char_ok (c : Char) : c.toNat < 0x110000 := by
  have h := c.valid
  unfold Char.toNat
  rcases h with h | h <;> omega
theorem okC_of (s : String) : okC (Str.ofString s) := by
  rw [okC_iff]
  intro c hc
  rw [Str.ofString_eq_toList] at hc
  have hc : c ∈ s.toList.map Char.toNat := by simpa using hc
  simp only [List.mem_map] at hc
  obtain ⟨d, _, rfl⟩ := hc
  exact char_ok d
theorem hex_ok (n c : Nat) : ∀ d ∈ List.replicate n 48 ++ (Nat.toDigits 16 c).map Char.toNat, d < 0x110000 := by
  intro d hd
  rcases List.mem_append.mp hd with hd | hd
  · rw [(List.mem_replicate.mp hd).2]; decide
  · obtain ⟨e, _, rfl⟩ := List.mem_map.mp hd
    exact char_ok e
theorem reprChar_ok (q c : Nat) (hc : c < 0x110000) : ∀ d ∈ Builtin.Str.reprChar q c, d < 0x110000 := by
  have cons : ∀ {x : Nat} {l : List Nat}, x < 0x110000 → (∀ d ∈ l, d < 0x110000) → ∀ d ∈ x :: l, d < 0x110000 := fun hx hl d hd => (List.mem_cons.mp hd).elim (fun e => by rw [e]; exact hx) (hl d)
  have nil : ∀ d ∈ ([] : List Nat), d < 0x110000 := by simp
  unfold Builtin.Str.reprChar
  dsimp only
  repeat' split
  all_goals first
    | exact cons (by decide) (cons hc nil)
    | exact cons (by decide) (cons (by decide) nil)
    | exact cons hc nil
    | exact cons (by decide) (cons (by decide) (hex_ok _ _))
theorem foldl_ok (q : Nat) : ∀ (l : List Nat) (acc : Array Nat), (∀ c ∈ l, c < 0x110000) → (∀ c ∈ acc.toList, c < 0x110000) → ∀ c ∈ (l.foldl (fun out c => out ++ (Builtin.Str.reprChar q c).toArray) acc).toList, c < 0x110000
  | [], acc, _, h => h
  | c :: r, acc, h, ha => by
    rw [List.foldl_cons]
    refine foldl_ok q r _ (fun d hd => h d (by simp [hd])) fun d hd => ?_
    rw [Array.toList_append, List.mem_append] at hd
    exact hd.elim (ha d) (reprChar_ok q c (h c (by simp)) d)
theorem okC_repr {x : Str} (h : okC x) : okC (reprText x) := by
  rw [okC_iff] at h ⊢
  unfold reprText
  have qq : reprQuote x < 0x110000 := by unfold reprQuote; split <;> decide
  intro c hc
  have hc : c ∈ ((x.cps.foldl (fun out c => out ++ (Builtin.Str.reprChar (reprQuote x) c).toArray) #[reprQuote x]).push (reprQuote x)).toList := hc
  rw [Array.toList_push, List.mem_append, ← Array.foldl_toList] at hc
  rcases hc with hc | hc
  · exact foldl_ok _ _ _ h (fun d hd => by
      have e : d = reprQuote x := by simpa using hd
      rw [e]; exact qq) c hc
  · have : c = reprQuote x := by simpa using hc
    rw [this]; exact qq
theorem okC_join {sep : Str} (hs : okC sep) : ∀ {ts : List Str}, (∀ t ∈ ts, okC t) → okC (Str.join sep ts)
  | [], _ => okC_of ""
  | [x], h => h x (by simp)
  | x :: y :: r, h => by
    show okC (x ++ sep ++ Str.join sep (y :: r))
    exact ((h x (by simp)).app hs).app (okC_join hs fun t ht => h t (by simp [ht]))
theorem okC_from : ∀ {ts : List Str} {k : Nat} {acc : Str}, (∀ t ∈ ts, okC t) → okC acc → okC (textFrom k acc ts)
  | [], _, _, _, a => a
  | t :: ts, k, acc, h, a => by
    show okC (textFrom (k + 1) (acc ++ (if k > 0 then ", " else "" : String) ++ t) ts)
    exact okC_from (fun u hu => h u (by simp [hu])) ((a.app (okC_of _)).app (h t (by simp)))
mutual
theorem okC_shown {K : KW} {H : Hp} : ∀ (n : Nat) (d : D) {v : V}, pure? n d = true → RepV K H d v → okC (pd d).shown
  | _, .none, _, _, _ => okC_of "None"
  | _, .bool b, _, _, _ => by cases b <;> exact okC_of _
  | _, .int i, _, _, _ => okC_of _
  | _, .str x, _, _, r => okC_repr r.2.2
  | 0, .tup ds, _, h, _ => by simp [pure?] at h
  | n + 1, .tup ds, _, h, r => by
    have h' : pures? n ds = true := by simpa [pure?] using h
    obtain ⟨_, _, _, _, rs⟩ := r
    have hs := okC_showns n ds h' rs
    show okC (tupleText (PyData.shownAll (pds ds)))
    unfold tupleText
    refine ((okC_of "(").app (okC_join (okC_of ", ") hs)).app ?_
    split <;> exact okC_of _
  | 0, .rol ds, _, h, _ => by simp [pure?] at h
  | n + 1, .rol ds, _, h, r => by
    have h' : pures? n ds = true := by simpa [pure?] using h
    obtain ⟨_, _, _, _, rs⟩ := r
    have hs := okC_showns n ds h' rs
    show okC (listText (PyData.shownAll (pds ds)))
    unfold listText
    exact (okC_from hs (okC_of "[")).app (okC_of "]")
  | n, .ref _, _, h, _ => by simp [pure?] at h
  | n, .ty _, _, h, _ => by simp [pure?] at h
theorem okC_showns {K : KW} {H : Hp} : ∀ (n : Nat) (ds : List D) {vs : List V}, pures? n ds = true → RepVs K H ds vs → ∀ t ∈ PyData.shownAll (pds ds), okC t
  | _, [], _, _, _ => by simp [pds, PyData.shownAll]
  | n, d :: ds, _, h, r => by
    have h' : pure? n d = true ∧ pures? n ds = true := by simpa [pures?] using h
    obtain ⟨_, _, _, r1, r2⟩ := r
    intro t ht
    rw [pds, PyData.shownAll] at ht
    rcases List.mem_cons.mp ht with rfl | ht
    · exact okC_shown n d h'.1 r1
    · exact okC_showns n ds h'.2 r2 t ht
end
end DL
namespace DL
open PySem PySem.Spec PyProof.Rows L2
/-! ### repr -/
def reprD (x : D) (h : MH) (Q : KD) : Prop := pure? 60 x = true ∧ (pd x).showable = true ∧ (pd x).shown.length ≤ sizeLine ∧ Q (.str (pd x).shown) h
mutual
theorem pd_noDict : ∀ d : D, (pd d).hasDict = false
  | .none => rfl
  | .bool _ => rfl
  | .int _ => rfl
  | .str _ => rfl
  | .ref _ => rfl
  | .ty _ => rfl
  | .tup ds => by show PyData.hasDictAll (pds ds) = false; exact pds_noDict ds
  | .rol ds => by show PyData.hasDictAll (pds ds) = false; exact pds_noDict ds
theorem pds_noDict : ∀ ds : List D, PyData.hasDictAll (pds ds) = false
  | [] => rfl
  | d :: ds => by rw [pds, PyData.hasDictAll, pd_noDict d, pds_noDict ds]; rfl
end
section
variable {X : Cx}
theorem xd_repr (hu : X.A.units + 65 < cLine) (hg : X.A.guards = some []) : CallR X (.builtin "repr") (lowC X.kw (on1 reprD)) := by
  intro pins s σ H xs us QV I rx ⟨ds, h, Q, rv, hH, hr, hc⟩
  obtain ⟨d, rfl, p, sh, len, q⟩ := on1_inv hr
  obtain ⟨x, rfl, rd⟩ := rep1 rv
  have ok : okS (pd d).shown := ⟨len, okC_shown 60 d p rd⟩
  have fin : QV (.str (pd d).shown) H := hc (.str _) h _ H Stp.refl hH ⟨rfl, ok⟩ q
  cases rx with
  | cons r1 r2 =>
    cases r2
    have big : ∀ {a : Addr}, x = .ref a → wpAny (model X.prog X.w) X.A (call (.builtin "repr") [.ref a]) (EP X pins σ QV) X.xe s := by
      rintro a rfl
      obtain ⟨dp, _⟩ := dp_of rd p
      obtain ⟨as, rr⟩ := Dp.reads I (pd d) (.ref a) (.ref a) dp rfl
      have dep := pd_depth 60 d p
      exact repr_of_reads' rr sh (fun z => by rw [pd_noDict] at z; cases z) hg (by omega) (fun _ _ e => e) (fun h' u tk hk => ⟨.str _, H, I.kept (t' := tk) hk, ⟨u, rfl⟩, fin⟩) len
    cases d with
    | none => cases (show x = _ from rd); cases r1; exact PySem.P.repr_of_none ⟨.str _, H, I.tok _, ⟨_, rfl⟩, fin⟩
    | bool b => cases (show x = _ from rd); cases r1; exact PySem.P.repr_of_bool ⟨.str _, H, I.tok _, ⟨_, rfl⟩, by cases b <;> exact fin⟩
    | int i =>
      cases (show x = _ from rd)
      obtain ⟨t, rfl⟩ := r1
      exact PySem.P.repr_of_int (of_decide_eq_true sh) ⟨.str _, H, I.tok _, ⟨_, rfl⟩, fin⟩
    | str z =>
      obtain ⟨rfl, _⟩ := rd
      obtain ⟨t, rfl⟩ := r1
      exact PySem.P.repr_of_str ⟨.str _, H, I.tok _, ⟨_, rfl⟩, fin⟩ len
    | tup ds =>
      obtain ⟨a, vs, ex, _⟩ := id rd
      have := big ex
      subst ex
      cases r1; exact this
    | rol ds =>
      obtain ⟨a, vs, ex, _⟩ := id rd
      have := big ex
      subst ex
      cases r1; exact this
    | ref _ => simp [pure?] at p
    | ty _ => simp [pure?] at p
/-! ### str(i), str(text) -/
def strD (x : D) (h : MH) (Q : KD) : Prop := match x with
  | .int i => i.natAbs.log2 < 1920 ∧ Q (.str (Str.ofString (toString i))) h
  | .str z => Q (.str z) h
  | _ => False
theorem int_len (i : Int) (h : i.natAbs.log2 < 1920) : (Str.ofString (toString i)).length ≤ sizeLine := int_text_fits h
theorem xd_str : CallR X (.type "str") (lowC X.kw (on1 strD)) := callR_1 fun x d h H Q QV rx hH hr hc => by
  cases d <;> try exact hr.elim
  case int i =>
    cases (show x = _ from rx)
    exact ⟨_, call_str_int, i, rfl, hr.1, hc.str hH ⟨int_len i hr.1, okC_of _⟩ hr.2⟩
  case str z =>
    obtain ⟨rfl, ok⟩ := rx
    exact ⟨_, SkE.call_str_str, z, rfl, hc.str hH ok hr⟩
/-! ### max, min of a list -/
def maxLD (x : D) (h : MH) (Q : KD) : Prop := intsK (fun ns => 0 < ns.length ∧ ∀ m, m ∈ ns → (∀ y, y ∈ ns → y ≤ m) → Q (.int m) h) h x
def minLD (x : D) (h : MH) (Q : KD) : Prop := intsK (fun ns => 0 < ns.length ∧ ∀ m, m ∈ ns → (∀ y, y ∈ ns → m ≤ y) → Q (.int m) h) h x
theorem xd_maxL (hc : X.calm = true) : CallR X (.builtin "max") (lowC X.kw (on1 maxLD)) := callR_1 fun x d h H Q QV rx hH hr hcl => by
  obtain ⟨a, ns, rfl, s, p, q⟩ := intsK_rep hH rx hr
  exact ⟨_, cr_max hc, a, ns, rfl, s, p, fun m hm hy => hcl.int hH (q m hm hy)⟩
theorem xd_minL (hc : X.calm = true) : CallR X (.builtin "min") (lowC X.kw (on1 minLD)) := callR_1 fun x d h H Q QV rx hH hr hcl => by
  obtain ⟨a, ns, rfl, s, p, q⟩ := intsK_rep hH rx hr
  exact ⟨_, cr_min hc, a, ns, rfl, s, p, fun m hm hy => hcl.int hH (q m hm hy)⟩
end
end DL
namespace DL
open PySem PySem.Spec PyProof.Rows L2
/-! two dicts of numbers by texts that are one: != says no -/
def isI : D → Bool
  | .int _ => true
  | _ => false
def dicEq (h : MH) (x y : D) (k : Prop) : Prop := ∃ a b ks ls, x = .ref a ∧ y = .ref b ∧ h a = some (.dic ks) ∧ h b = some (.dic ls) ∧ ks ≠ [] ∧ ls ≠ [] ∧ ks.length = ls.length ∧ (∀ p ∈ ks, (scaK p.1).isSome = true) ∧ (∀ p ∈ ls, (scaK p.1).isSome = true) ∧ (∀ p ∈ ks, dget ls p.1 = some p.2 ∧ isI p.2 = true) ∧ k
def neDX : R1 := fun x y h Q => neD x y h Q ∨ dicEq h x y (Q (.bool false) h)
theorem dicK {K : KW} {H : Hp} {a : Addr} {ks : Kvs} (r : RepO K H a (.dic ks)) (ne : ks ≠ []) (s : ∀ p ∈ ks, (scaK p.1).isSome = true) : ∃ kv, H a = some (.dK kv) ∧ RepKs K H ks kv := by
  rcases r with r | ⟨xs, r⟩
  · exact r
  · cases ks with
    | nil => exact absurd rfl ne
    | cons p r' =>
      have h1 := r.tup p (by simp)
      have h2 := s p (by simp)
      cases e : p.1 <;> rw [e] at h1 h2 <;> first | (cases h1; done) | (cases h2; done)
theorem od_neX {X : Cx} (hu : X.A.units + 64 < cLine) : OpR X (compareOp .NotEq) (lowR X.kw neDX) := opR_of fun x y H QV ⟨d, e, h, Q, rx, ry, hH, hr, hc⟩ => by
  rcases hr with hr | ⟨a, b, ks, ls, rfl, rfl, ea, eb, n1, n2, hl, s1, s2, hk, q⟩
  · exact ⟨_, od_ne hu, d, e, h, Q, rx, ry, hH, hr, hc⟩
  · cases (show x = _ from rx)
    cases (show y = _ from ry)
    obtain ⟨kv, eH, r1⟩ := dicK (hH _ _ ea) n1 s1
    obtain ⟨lv, eL, r2⟩ := dicK (hH _ _ eb) n2 s2
    refine ⟨_, op_ne_dictA (by omega), a, b, kv, lv, rfl, rfl, eH, eL, by rw [← Paired.length r1, ← Paired.length r2]; exact hl, fun q hq => ?_, hc.bl hH q⟩
    obtain ⟨i, hi⟩ := List.getElem?_of_mem hq
    obtain ⟨p, hp, e1, e2, e3⟩ := P2.get' r1 hi
    obtain ⟨g1, g2⟩ := hk p (List.mem_of_getElem? hp)
    have := dget_K r2 e1
    rw [g1] at this
    obtain ⟨v, ev, rv⟩ := RO.some_ this rfl
    cases ep : p.2 <;> rw [ep] at g2 <;> first | (cases g2; done) | skip
    rw [ep] at rv e3
    cases (show v = _ from rv)
    have e3 : q.2 = _ := e3
    rw [e3]
    exact ⟨ev, rfl⟩
end DL
namespace DL
open PySem PySem.Spec PyProof.Rows L2
/-! ### zip(tuple, text) -/
def ItzS (K : PySem.W.Frag) (a : Addr) (z : Str) : It :=
  ⟨fun i H => ∃ (xs : List V) (x : V) (c : Nat), SqT K H a xs ∧ xs[i]? = some x ∧ z.cps[i]? = some c,
    fun i H v H' => ∃ T x c, v = .ref T ∧ H T = none ∧ H' = upd H T (.tup [x, .str ⟨#[c]⟩]) ∧ (∀ xs, SqT K H a xs → xs[i]? = some x) ∧ z.cps[i]? = some c,
    fun i H => ∃ xs : List V, SqT K H a xs ∧ (i = xs.length ∨ i = z.cps.size) ∧ i ≤ xs.length ∧ i ≤ z.cps.size⟩
theorem turn_zipTS {P : Program} {w : World} {K : PySem.W.Frag} {elts : List Expr} {kk : Nat} {tpos : Pos} {a q TI TO i1 i2 : Addr} {z : Str} {t : Tok} (D : ZipSep2 q TI TO i1 i2 [i1, a] [i2]) :
    Turn P w K (.Tuple elts kk tpos) (ItzS K a z) [q, TI, TO, i1, i2] q (fun i h => IsZip h q TI TO .none ∧ IsTupOf2 h TI (.ref i1) (.ref i2) ∧ (∃ x y, IsTupOf2 h TO x y) ∧ h.IsTupleIter i1 a i ∧ h.IsStrIter i2 (strIterType z) z t i) where
  mem := by simp
  obj := fun i h st c hc => by
    obtain ⟨hz, hTI, ⟨x, y, hTO⟩, ⟨o1, e1, _, d1⟩, ⟨o2, e2, _, d2⟩⟩ := st
    have e' : c = q ∨ c = TI ∨ c = TO ∨ c = i1 ∨ c = i2 := by simpa using hc
    rcases e' with rfl | rfl | rfl | rfl | rfl
    · exact ⟨_, hz, fun v e => nomatch e⟩
    · exact ⟨_, hTI, fun v e => nomatch e⟩
    · exact ⟨_, hTO, fun v e => nomatch e⟩
    · exact ⟨o1, e1, fun v e => by rw [d1] at e; cases e⟩
    · exact ⟨o2, e2, fun v e => by rw [d2] at e; cases e⟩
  keep := fun i h h' st k => by
    obtain ⟨hz, hTI, ⟨x, y, hTO⟩, h1, ⟨o2, e2, r2⟩⟩ := st
    exact ⟨k q (by simp) _ hz, k TI (by simp) _ hTI, ⟨x, y, k TO (by simp) _ hTO⟩, h1.at fun o e => k i1 (by simp) o e, ⟨o2, k i2 (by simp) o2 e2, r2⟩⟩
  item := by
    intro X hP hw hK hc i pins s σ H E I hf st hg
    subst hP hw hK
    obtain ⟨hz, hTI, ⟨x0, y0, hTO⟩, h1, h2⟩ := st
    obtain ⟨xs, x, c, hqx, hx, hcx⟩ := hg
    obtain ⟨its, rv, p, _⟩ := I.tuple hqx
    obtain ⟨u, hu, ru⟩ := rv.get hx
    have T : s.heap.IsTuple a its.toArray := p
    have hd : X.A.in1.handled = none := I.ok.hd hc
    have ai : a ≠ i1 := fun e => by
      obtain ⟨o, e1, c1, _⟩ := T
      obtain ⟨o2, e2, c2, _⟩ := h1
      subst e; rw [e1] at e2; cases e2; rw [c1] at c2; exact absurd (Value.type.inj c2) (by decide)
    have lt1 : i < its.toArray.size := by have := (List.getElem?_eq_some_iff.mp hu).1; simpa using this
    have lt2 : i < z.cps.size := (Array.getElem?_eq_some_iff.mp hcx).1
    have hzl : q < s.heap.objs.size := Heap.lt_size hz
    refine wpAny_pyNext_zipD2_item D (Draws.tuple hd i1 a ai its.toArray) (Draws.text hd i2 z t) hz hTI hTO ⟨h1, T⟩ h2 lt1 lt2 fun x1 x2 h' tk p1 p2 z' TO' s1' s2' hT hsz hk => ?_
    have ex : x1 = u := by
      have p1 : its.toArray[i]? = some x1 := p1
      rw [List.getElem?_toArray, hu] at p1
      exact (Option.some.inj p1).symm
    obtain ⟨c', u2, hc2, ex2⟩ := p2
    rw [hcx] at hc2
    cases hc2
    subst ex ex2
    refine ⟨_, rfl, wpAny_letOwnedTupleGo_zip (s := { s with heap := h', toks := tk }) z' fun h'' z'' sb => ?_⟩
    have hT2 : h''.get? s.heap.objs.size = some { cls := .type "tuple", data := .seq #[x1, .str ⟨#[c]⟩ u2] } := (sb.2 _ (Nat.ne_of_gt hzl)).trans hT
    have I1 : Inv X pins σ (upd H s.heap.objs.size (.tup [x, .str ⟨#[c]⟩])) { s with heap := h'', toks := tk } :=
      I.turnedNew (ch := [q, TI, TO, i1, i2]) (fun b o hb e => (sb.2 b (fun w => hb (by simp [w]))).trans (hk b o (fun w => hb (by simp [w])) (fun w => hb (by simp [w])) (fun w => hb (by simp [w])) (fun w => hb (by simp [w])) e)) hf (Nat.le_refl _)
        ⟨by show 2 ≤ sizeLine; decide, [x1, .str ⟨#[c]⟩ u2], .cons ru (.cons ⟨_, rfl⟩ .nil), ⟨_, hT2, rfl, _, rfl⟩⟩
    refine ⟨.ref s.heap.objs.size, _, I1, rfl, ⟨_, x, c, rfl, I.hok.fresh (Nat.le_refl _), rfl, fun l hl => by rw [I.tuple_inj hl hqx]; exact hx, hcx⟩, ⟨z'', ?_, ⟨x1, .str ⟨#[c]⟩ u2, ?_⟩, ?_, ?_⟩, fun b hb => ?_⟩
    · exact (sb.2 _ D.TIz).trans (hk _ _ D.TIz D.TITO D.TIi1 D.TIi2 hTI)
    · exact (sb.2 _ D.TOz).trans TO'
    · exact s1'.1.at fun o e => (sb.2 _ (Ne.symm D.zi1)).trans e
    · obtain ⟨o2, e2, r2⟩ := s2'
      exact ⟨o2, (sb.2 _ (Ne.symm D.zi2)).trans e2, r2⟩
    · have hlt : b < s.heap.objs.size := by
        have e' : b = q ∨ b = TI ∨ b = TO ∨ b = i1 ∨ b = i2 := by simpa using hb
        rcases e' with rfl | rfl | rfl | rfl | rfl
        · exact hzl
        · exact Heap.lt_size hTI
        · exact Heap.lt_size hTO
        · obtain ⟨_, e1, _⟩ := h1; exact Heap.lt_size e1
        · obtain ⟨_, e2, _⟩ := h2; exact Heap.lt_size e2
      rw [upd_ne (Nat.ne_of_lt hlt)]
      exact (hf b hb).1
  done := by
    intro X hP hw hK hc i pins s σ H E I hf st hg
    subst hP hw hK
    obtain ⟨hz, hTI, ⟨x0, y0, hTO⟩, h1, h2⟩ := st
    obtain ⟨xs, hqx, hend, le1, le2⟩ := hg
    obtain ⟨its, rv, p, _⟩ := I.tuple hqx
    have T : s.heap.IsTuple a its.toArray := p
    have hd : X.A.in1.handled = none := I.ok.hd hc
    have ai : a ≠ i1 := fun e => by
      obtain ⟨o, e1, c1, _⟩ := T
      obtain ⟨o2, e2, c2, _⟩ := h1
      subst e; rw [e1] at e2; cases e2; rw [c1] at c2; exact absurd (Value.type.inj c2) (by decide)
    have en : its.toArray.size = xs.length := by rw [List.size_toArray]; exact rv.length.symm
    refine wpAny_pyNext_zipD2_end D (Draws.tuple hd i1 a ai its.toArray) (Draws.text hd i2 z t) hz hTI hTO ⟨h1, T⟩ h2 (by omega) le2 (by rw [en]; exact hend) fun h' tk hk => ⟨rfl, ?_⟩
    exact I.turnedL (ch := [q, TI, TO, i1, i2]) (fun b o hb e => hk b o (fun w => hb (by simp [w])) (fun w => hb (by simp [w])) (fun w => hb (by simp [w])) (fun w => hb (by simp [w])) e) hf
  self := fun A i s Q E st h => wpAny_pyIter_zip st.1 h
def iZipS (K : PySem.W.Frag) (ta : TA) : TI := fun σ H R => ta σ H fun vs H1 => ∃ a xs z, vs = [.ref a, .str z] ∧ SqT K H1 a xs ∧ R (ItzS K a z) H1
theorem pi_zipS {X : Cx} {e e2 : Expr} {ta : TA} {p pos tpos : Pos} {elts : List Expr} {kk : Nat} (hg : Gl X "zip") (hm : X.mg "zip" = none) (ha : PA X [e, e2] ta)
    (hs : starEach [e, e2] X.env = (false, eval e X.env) :: starEach [e2] X.env := by rfl) (hpl : (backTo pos (starEach [e2] X.env)).any (·.1) = false := by rfl) :
    PI X (.Tuple elts kk tpos) (.Call (.Name "zip" p) [e, e2] [] pos) (iZipS X.K ta) := by
  refine ⟨fun pins s σ H R I h => ?_⟩
  refine Call_ (ld_blt I hg hm PyProof.Rows.boot_zip (PyProof.Rows.callWith_type1 (thn (ha.run pos pins s σ H _ I h) fun us s1 ⟨vs, H1, I1, r1, a, xs, z, ex, hqx, q⟩ => ?_) hs hpl))
  subst ex
  cases r1 with
  | cons r rr =>
    cases rr with
    | cons r' rr =>
      cases rr
      cases r
      obtain ⟨t, rfl⟩ := r'
      obtain ⟨its, rv, p1, _⟩ := I1.tuple hqx
      obtain ⟨o1, ho1, _⟩ := id p1
      have la : a < s1.heap.objs.size := Heap.lt_size ho1
      refine zip_begins2 (begins_tuple a its.toArray) (begins_text z t) (show s1.heap.IsTuple a its.toArray from p1) trivial fun h' hz hTI hTO h1 h2 hsz hk => wpAny_pyIter_zip hz ?_
      have I2 : Inv X pins σ H1 { s1 with heap := h' } := I1.kept (t' := s1.toks) hk
      refine ⟨s1.heap.objs.size + 4, [s1.heap.objs.size + 4, s1.heap.objs.size + 2, s1.heap.objs.size + 3, s1.heap.objs.size, s1.heap.objs.size + 1], _, _, H1, rfl, I2, turn_zipTS (t := t) (zip_sep2 (fp1 := [a]) (fp2 := []) (by simpa using la) (by simp)), ⟨hz, hTI, ⟨_, _, hTO⟩, ⟨_, h1, rfl, rfl⟩, ⟨_, h2, rfl, rfl⟩⟩, fun c hc => ?_, q⟩
      have hle : s1.heap.objs.size ≤ c := by
        have e' : c = s1.heap.objs.size + 4 ∨ c = s1.heap.objs.size + 2 ∨ c = s1.heap.objs.size + 3 ∨ c = s1.heap.objs.size ∨ c = s1.heap.objs.size + 1 := by simpa using hc
        rcases e' with e | e | e | e | e <;> rw [e] <;> first | exact Nat.le_add_right _ _ | exact Nat.le_refl _
      exact I1.fpOk hle (I1.hok.fresh hle)
def zsK (ds : List D) (h : MH) (Q : List D → (MH → Prop) → MH → Prop) : Prop := match ds with
  | [.tup xs, .str z] => Q (zpD xs (signs z)) (fun _ => True) h
  | _ => False
def iZs (ta : A1) : I1 := fun σ h Q => ta σ h fun ds h1 => zsK ds h1 Q
theorem di_zipS {X : Cx} {e e2 : Expr} {ta : A1} {p pos tpos : Pos} {elts : List Expr} {kk : Nat} (hg : Gl X "zip") (hm : X.mg "zip" = none) (ha : DA X [e, e2] ta)
    (hs : starEach [e, e2] X.env = (false, eval e X.env) :: starEach [e2] X.env := by rfl) (hpl : (backTo pos (starEach [e2] X.env)).any (·.1) = false := by rfl) :
    DI X (.Tuple elts kk tpos) (.Call (.Name "zip" p) [e, e2] [] pos) (iZs ta) :=
  weakI (pi_zipS hg hm ha hs hpl) fun σV H R ⟨σ, h, Q, hE, hH, ht, hc⟩ => ⟨σ, h, _, hE, hH, ht, fun ds h' vs H' s' r' rv q => by
    have q : zsK ds h' Q := q
    unfold zsK at q
    split at q
    · rename_i xs z _
      obtain ⟨v, r, rfl, r1, v2, r2, rfl, r3, r4⟩ := rv
      cases (show r2 = [] from r4)
      obtain ⟨a, us, rfl, sq, ru⟩ := r1
      obtain ⟨rfl, ok⟩ := r3
      have len : (signs z).length = z.cps.size := by unfold signs; rw [List.length_map, Array.length_toList]
      have sg : ∀ (i c : Nat), z.cps[i]? = some c → (signs z)[i]? = some (.str ⟨#[c]⟩) := fun i c e => by unfold signs; rw [List.getElem?_map, Array.getElem?_toList, e]; rfl
      refine ⟨a, us, z, rfl, sq, hc _ _ _ _ _ s' r' ⟨fun h2 H2 i q2 rh _ hi => ?_, fun h2 H2 i v H3 q2 rh _ _ y => ?_, fun h2 H2 q2 rh _ => ?_⟩ q⟩
      · rw [zpD_len, len] at hi
        have s2 := (Stp.mo r' q2).t _ _ sq
        have lu := ru.length
        exact ⟨us, us[i]'(by omega), z.cps[i]'(by omega), s2, List.getElem?_eq_getElem _, by simp⟩
      · obtain ⟨T, x, c, rfl, nT, rfl, hx, hcx⟩ := y
        have s2 := (Stp.mo r' q2).t _ _ sq
        have r2 := RepVs.mono (Stp.mo r' q2) _ ru
        obtain ⟨d, ed, rd⟩ := P2.get' r2.pair (hx us s2)
        have okc : okS ⟨#[c]⟩ := by
          have := ok.2
          refine ⟨by show 1 ≤ sizeLine; decide, ?_⟩
          unfold PyData.strOk at this ⊢
          rw [Array.all_eq_true] at this
          obtain ⟨hl, e⟩ := Array.getElem?_eq_some_iff.mp hcx
          have h2 := this i hl
          rw [e] at h2
          simpa using h2
        obtain ⟨p1, p2, p3⟩ := pair_rep (e := .str ⟨#[c]⟩) (y := .str ⟨#[c]⟩) rh nT rd ⟨rfl, okc⟩
        exact ⟨_, zpD_get _ _ _ _ _ ed (sg i c hcx), p1, p2, p3⟩
      · have s2 := (Stp.mo r' q2).t _ _ sq
        refine ⟨us, s2, ?_, ?_, ?_⟩ <;> rw [zpD_len, len, ru.length] <;> omega
    · exact q.elim⟩
end DL
namespace DL
open PySem PySem.Spec PyProof.Rows L2
/-! ### text.split(sep), text.split(); list.index -/
def okSB (x : Str) : Bool := decide (x.length ≤ sizeLine) && PyData.strOk x
theorem okSB_ok {x : Str} (h : okSB x = true) : okS x := by
  unfold okSB at h
  rw [Bool.and_eq_true] at h
  exact ⟨of_decide_eq_true h.1, h.2⟩
def newStrs (ys : List Str) (h : MH) (Q : KD) : Prop := ys.all okSB = true ∧ ∀ p, h p = none → Q (.ref p) (up h p (.lst (ys.map D.str)))
theorem newStrs_low {K : KW} {ys : List Str} {h : MH} {H : Hp} {Q : KD} {QV : VK} (hH : RepH K h H) (q : newStrs ys h Q) (hc : Cl K h H Q QV) : rNewStrs ys H QV := fun p np => by
  have rep : ∀ {l : List Str}, l.all okSB = true → RepVs K H (l.map D.str) (l.map V.str) := by
    intro l
    induction l with
    | nil => exact fun _ => .nil
    | cons x r ih =>
      intro hl
      rw [List.all_cons, Bool.and_eq_true] at hl
      exact .cons ⟨rfl, okSB_ok hl.1⟩ (ih hl.2)
  exact hc.new hH np (rep q.1) (q.2 p (hH.nofresh np))
def splitD (x y : D) (h : MH) (Q : KD) : Prop := match x, y with
  | .str a, .str b => (b.length == 0) = false ∧ a.length + 2 ≤ sizeLine ∧ newStrs (Txt.split a b) h Q
  | _, _ => False
def dSplit (to te : E1) : E1 := fun σ h Q => to σ h fun x h1 => (∃ z, x = .str z) ∧ te σ h1 fun y h2 => splitD x y h2 Q
def wordsD (x : D) (h : MH) (Q : KD) : Prop := match x with
  | .str a => a.length + 2 ≤ sizeLine ∧ newStrs (Txt.words a) h Q
  | _ => False
def indexD : M1 := fun x ds h Q => match x, ds with
  | .ref a, [y] => lstK (fun xs => pure? 60 y = true ∧ pures? 60 xs = true ∧ ∃ (j : Nat) (z : D), xs[j]? = some z ∧ eqF z y = true ∧ (∀ (m : Nat) (z' : D), m < j → xs[m]? = some z' → eqF z' y = false) ∧ Q (.int (j : Nat)) h) (h a)
  | _, _ => False
theorem pds_get : ∀ (ds : List D) (j : Nat), (pds ds)[j]? = (ds[j]?).map pd
  | [], j => by simp [pds]
  | d :: ds, 0 => by simp [pds]
  | d :: ds, j + 1 => by simp only [pds, List.getElem?_cons_succ]; exact pds_get ds j
section
variable {X : Cx}
theorem de_split {o e : Expr} {to te : E1} {apos pos : Pos} (ho : DE X o to) (he : DE X e te) (hs : starEach [e] X.env = [(false, eval e X.env)] := by rfl) (hbase : attributeBase o "split" X.env (eval o X.env) = eval o X.env := by rfl) (hline : (apos.endLine == pos.line) = true := by rfl) :
    DE X (.Call (.Attribute o "split" apos) [e] [] pos) (dSplit to te) :=
  weakE (pe_split ho he hs hbase hline) fun σV H QV ⟨σ, h, Q, hE, hH, ht, hc⟩ => by
    refine ⟨σ, h, _, hE, hH, ht, fun x h1 v H1 s1 hH1 r1 q => ?_⟩
    obtain ⟨⟨z, rfl⟩, q⟩ := q
    obtain ⟨rfl, oz⟩ := r1
    refine ⟨⟨z, rfl⟩, σ, h1, _, hE.mono (Stp.mo hH s1), hH1, q, fun y h2 u H2 s2 hH2 r2 q2 => ?_⟩
    cases y with
    | str b =>
      obtain ⟨rfl, ob⟩ := r2
      have q2 : (b.length == 0) = false ∧ z.length + 2 ≤ sizeLine ∧ newStrs (Txt.split z b) h2 Q := q2
      exact ⟨z, b, rfl, rfl, q2.1, q2.2.1, newStrs_low hH2 q2.2.2 (hc.step (s1.trans s2))⟩
    | _ => exact (show False from q2).elim
theorem de_words {o : Expr} {to : E1} {apos pos : Pos} (ho : DE X o to) (hbase : attributeBase o "split" X.env (eval o X.env) = eval o X.env := by rfl) (hline : (apos.endLine == pos.line) = true := by rfl) :
    DE X (.Call (.Attribute o "split" apos) [] [] pos) (dUn wordsD to) :=
  weakE (pe_words ho hbase hline) fun σV H QV ⟨σ, h, Q, hE, hH, ht, hc⟩ => by
    refine ⟨σ, h, _, hE, hH, ht, fun x h1 v H1 s1 hH1 r1 q => ?_⟩
    cases x with
    | str z =>
      obtain ⟨rfl, oz⟩ := r1
      have q : z.length + 2 ≤ sizeLine ∧ newStrs (Txt.words z) h1 Q := q
      exact ⟨⟨z, rfl⟩, z, rfl, rfl, q.1, newStrs_low hH1 q.2 (hc.step s1)⟩
    | _ => exact (show False from q).elim
theorem xm_index (hu : X.A.units + 65 < cLine) : MtR X "list.index" (lowM X.kw indexD) := mtR_of fun x vs H QV ⟨d, ds, h, Q, rx, rv, hH, hr, hc⟩ => by
  unfold indexD at hr
  split at hr
  · rename_i a y
    obtain ⟨xs, eh, p1, p2, j, z, hz, e1, no, q⟩ := lstK_inv hr
    cases (show x = _ from rx)
    obtain ⟨v, rfl, r1⟩ := rep1 rv
    obtain ⟨us, eH, ru⟩ := hH a _ eh
    obtain ⟨a1, b1⟩ := dp_of r1 p1
    obtain ⟨a2, b2, _⟩ := dps_of ru p2
    refine ⟨_, mt_indexD hu, a, v, pd y, pds xs, j, pd z, rfl, rfl, .lst (SqL.of eH) a2, a1, b2, b1, by rw [pds_get, hz]; rfl, e1, fun m z' hm hz' => ?_, hc.val hH (d := .int (j : Nat)) rfl q⟩
    rw [pds_get] at hz'
    obtain ⟨w, ew, rfl⟩ := Option.map_eq_some_iff.mp hz'
    exact no m w hm ew
  · exact hr.elim
end
end DL
namespace DL
open PySem PySem.Spec PyProof.Rows L2
/-! sorted(x): a list, a tuple, a dict with scalar keys; things of one kind, any number -/
def leK (x y : D) : Bool := !PySem.W.dataLt (pd y) (pd x)
def alikeB (ds : List D) : Bool := ds.all fun x => ds.all fun y => PySem.W.alike (pd x) (pd y)
def isTup1 : D → Bool
  | .tup (_ :: _) => true
  | _ => false
def notTN : D → Bool
  | .tup _ => false
  | .none => false
  | _ => true
def sortsB (ds : List D) : Bool := ds.all isTup1 || ds.all notTN
def sortK (ds : List D) (h : MH) (Q : KD) : Prop := pures? 50 ds = true ∧ alikeB ds = true ∧ sortsB ds = true ∧ ds.length ≤ sizeLine ∧ ∀ (ys : List D) (p : Addr), ys.Perm ds → ys.Pairwise (fun a b => leK a b = true) → h p = none → Q (.ref p) (up h p (.lst ys))
def sortO (h : MH) (Q : KD) : Option MO → Prop
  | some (.lst ds) => sortK ds h Q
  | some (.dic kvs) => kvs.all (fun p => (scaK p.1).isSome) = true ∧ sortK (kvs.map (·.1)) h Q
  | _ => False
def sortedD (x : D) (h : MH) (Q : KD) : Prop := match x with
  | .tup ds => sortK ds h Q
  | .rol ds => sortK ds h Q
  | .ref a => sortO h Q (h a)
  | _ => False
theorem mem_pds {x : PyData} : ∀ {ds : List D}, x ∈ pds ds → ∃ d, d ∈ ds ∧ x = pd d
  | [], h => by simp [pds] at h
  | d :: ds, h => by
    simp only [pds, List.mem_cons] at h
    rcases h with rfl | h
    · exact ⟨d, by simp, rfl⟩
    · obtain ⟨e, h1, h2⟩ := mem_pds h
      exact ⟨e, by simp [h1], h2⟩
theorem pd_mem {d : D} : ∀ {ds : List D}, d ∈ ds → pd d ∈ pds ds
  | [], h => by simp at h
  | e :: ds, h => by
    simp only [pds, List.mem_cons]
    rcases List.mem_cons.mp h with rfl | h
    · exact .inl rfl
    · exact .inr (pd_mem h)
section
variable {ds : List D}
theorem allAlike (h : alikeB ds = true) : PySem.W.AllAlike (pds ds) := by
  intro x hx y hy
  obtain ⟨d, hd, rfl⟩ := mem_pds hx
  obtain ⟨e, he, rfl⟩ := mem_pds hy
  unfold alikeB at h
  rw [List.all_eq_true] at h
  have := h d hd
  rw [List.all_eq_true] at this
  exact this e he
theorem sortable {n : Nat} (pu : pures? n ds = true) (h : sortsB ds = true) : PySem.W.Sortable (pds ds) := by
  unfold sortsB at h
  rw [Bool.or_eq_true, List.all_eq_true, List.all_eq_true] at h
  rcases h with h | h
  · left
    intro x hx
    obtain ⟨d, hd, rfl⟩ := mem_pds hx
    have := h d hd
    cases d with
    | tup xs =>
      cases xs with
      | nil => cases this
      | cons y r => exact ⟨pd y, pds r, by simp [pd, pds]⟩
    | _ => cases this
  · right
    intro x hx
    obtain ⟨d, hd, rfl⟩ := mem_pds hx
    have := h d hd
    refine ⟨?_, ?_⟩
    · cases d with
      | none => cases this
      | tup xs => cases this
      | ref _ => rw [pures_all, List.all_eq_true] at pu; have := pu _ hd; simp [pure?] at this
      | ty _ => rw [pures_all, List.all_eq_true] at pu; have := pu _ hd; simp [pure?] at this
      | _ => intro e; simp [pd] at e
    · intro xs
      cases d with
      | none => cases this
      | tup xs => cases this
      | _ => intro e; simp [pd] at e
end
theorem pures_up : ∀ {n m : Nat}, n ≤ m → ∀ ds : List D, pures? n ds = true → pures? m ds = true := by
  have one : ∀ (n m : Nat), n ≤ m → ∀ x : D, pure? n x = true → pure? m x = true := by
    intro n
    induction n with
    | zero =>
      intro m _ x h
      cases x <;> simp_all [pure?]
    | succ n ih =>
      intro m hm x h
      cases m with
      | zero => omega
      | succ m =>
        cases x with
        | tup xs =>
          simp only [pure?, pures_all, List.all_eq_true] at h ⊢
          exact fun y hy => ih m (by omega) y (h y hy)
        | rol xs =>
          simp only [pure?, pures_all, List.all_eq_true] at h ⊢
          exact fun y hy => ih m (by omega) y (h y hy)
        | _ => simp_all [pure?]
  intro n m h ds p
  rw [pures_all, List.all_eq_true] at p ⊢
  exact fun x hx => one n m h x (p x hx)
section
variable {X : Cx} {pins : List (Addr × Obj)} {σ : L2.St} {H : Hp}
theorem each_of {K : KW} {H : Hp} : ∀ {ds : List D} {vs : List V} {us : List Value}, RepVs K H ds vs → Vals vs us → PySem.W.EachIs (fun u d => ∃ v, RelV v u ∧ RepV K H d v) us ds
  | [], _, _, r, q => by
    cases (show _ = [] from r)
    cases q; exact .nil
  | d :: ds, _, _, r, q => by
    obtain ⟨v, w, rfl, r1, r2⟩ := r
    cases q with
    | cons a b => exact .cons ⟨v, a, r1⟩ (each_of r2 b)
theorem each_back {K : KW} {H : Hp} : ∀ {ds : List D} {us : List Value}, PySem.W.EachIs (fun u d => ∃ v, RelV v u ∧ RepV K H d v) us ds → ∃ vs, RepVs K H ds vs ∧ Vals vs us
  | _, _, .nil => ⟨[], rfl, .nil⟩
  | _, _, .cons ⟨v, a, b⟩ t => by
    obtain ⟨vs, h1, h2⟩ := each_back t
    exact ⟨v :: vs, .cons b h1, .cons a h2⟩
theorem each_reads {s : Shared} (I : Inv X pins σ H s) {n : Nat} : ∀ {ds : List D} {vs : List V} {us : List Value}, pures? n ds = true → RepVs X.kw H ds vs → Vals vs us → PySem.W.EachIs (fun u d => ∃ as, Reads s.heap u (pd d) as) us ds
  | [], _, _, _, r, q => by
    cases (show _ = [] from r)
    cases q; exact .nil
  | d :: ds, _, _, p, r, q => by
    obtain ⟨v, w, rfl, r1, r2⟩ := r
    have p' : pure? n d = true ∧ pures? n ds = true := by simpa [pures?] using p
    cases q with
    | cons a b => exact .cons (Dp.reads I (pd d) v _ (pd_dp n d v p'.1 r1).1 a) (each_reads I p'.2 r2 b)
theorem each_pds {R : Value → PyData → Prop} : ∀ {us : List Value} {ds : List D}, PySem.W.EachIs (fun u d => R u (pd d)) us ds → PySem.W.EachIs R us (pds ds)
  | _, _, .nil => by simp only [pds]; exact .nil
  | _, _, .cons a t => by simp only [pds]; exact .cons a (each_pds t)
theorem each_mem {R R' : Value → D → Prop} : ∀ {us : List Value} {ds : List D}, PySem.W.EachIs R us ds → (∀ u d, d ∈ ds → R u d → R' u d) → PySem.W.EachIs R' us ds
  | _, _, .nil, _ => .nil
  | _, _, .cons a t, h => .cons (h _ _ (by simp) a) (each_mem t fun u d hd => h u d (by simp [hd]))
/-- what is collected is sorted -/
theorem sort_from {h : MH} {ds : List D} {u : Value} {vs : List V} {s : Shared} {Q : KD} {QV : VK} (hu : X.A.units + 64 < cLine) (I : Inv X pins σ H s) (hH : RepH X.kw h H) (r : RepVs X.kw H ds vs) (k : sortK ds h Q) (hc : Cl X.kw h H Q QV)
    (hcol : ∀ R : List Value → Shared → Prop, (∀ (h' : Heap) (tk : Nat) (us : List Value), (∀ b o, s.heap.get? b = some o → h'.get? b = some o) → Vals vs us → R us { s with heap := h', toks := tk }) → wpAny (model X.prog X.w) X.A.in1 (collect u) R X.xe s) :
    wpAny (model X.prog X.w) X.A (call (.builtin "sorted") [u]) (EP X pins σ QV) X.xe s := by
  obtain ⟨pu, al, so, hz, k⟩ := k
  refine Calls.call_function_entry PyProof.Rows.kind_sorted PyProof.Rows.plain_sorted PyProof.Rows.entry_sorted (PyProof.Rows.args_sorted1 _) ?_
  unfold Builtin.«sorted»
  refine wpAny_bind (m := checkCount "sorted" 1 1 _) (wpAny_pure ?_)
  refine wpAny_bind (hcol _ fun h' tk us keep hv => ?_)
  have I1 : Inv X pins σ H { s with heap := h', toks := tk } := I.kept keep
  have hlen : us.length = ds.length := by rw [← hv.length, r.length]
  refine wpAny_bind (wpAny_newList ?_ (by rw [hlen]; exact hz))
  have hoL : (h'.push (seqObj "list" us.toArray 0)).get? h'.objs.size = some (seqObj "list" us.toArray 0) := Heap.get?_push_size _ rfl
  show wpAny _ _ _ _ _ { s with heap := h'.push (seqObj "list" us.toArray 0), toks := tk }
  have keep2 : ∀ b o, h'.get? b = some o → (PySem.W.sortingHeap (h'.push (seqObj "list" us.toArray 0)) h'.objs.size us).get? b = some o := fun b o e => by
    exact PySem.W.sortingHeap_old (Nat.ne_of_lt (Heap.lt_size e)) (Heap.get?_push_of_some _ e)
  have I2 : Inv X pins σ H { s with heap := PySem.W.sortingHeap (h'.push (seqObj "list" us.toArray 0)) h'.objs.size us, toks := tk } := I.kept (fun b o e => keep2 b o (keep b o e))
  have rd : PySem.W.EachIs (fun v d => ∃ as, Reads (PySem.W.sortingHeap (h'.push (seqObj "list" us.toArray 0)) h'.objs.size us) v d as) us (pds ds) := each_pds (each_reads I2 pu r hv)
  have S : PySem.W.SortsAt X.prog X.w X.A.in1.in1 { s with heap := PySem.W.sortingHeap (h'.push (seqObj "list" us.toArray 0)) h'.objs.size us, toks := tk } (PySem.W.dataKind (PySem.W.sortingHeap (h'.push (seqObj "list" us.toArray 0)) h'.objs.size us) (pds ds)) us :=
    PySem.W.SortsAt.data rd (allAlike al) (sortable pu so) fun d hd => by
      obtain ⟨e, he, rfl⟩ := mem_pds hd
      have hp := pu
      rw [pures_all, List.all_eq_true] at hp
      have := pd_depth 50 e (hp e he)
      simp only [Around.in1_units]
      omega
  have ev := PySem.W.sortVals_each (κ := PySem.W.dataKind (PySem.W.sortingHeap (h'.push (seqObj "list" us.toArray 0)) h'.objs.size us) (pds ds)) (rev := false) (fun d : D => PySem.W.keyToks (pd d)) (each_of r hv) (ks := us) ?_
  · obtain ⟨vs', r', v'⟩ := each_back ev
    refine wpAny_bind (wpAny_holding (wpAny_call_entry PyProof.Rows.slot_list_sort ⟨_, hoL, rfl⟩ PyProof.Rows.entry_list_sort
      (PySem.W.list_sort_vals (s := { s with heap := h'.push (seqObj "list" us.toArray 0), toks := tk }) hoL S (by rw [hlen]; exact hz) ⟨_, rfl, ?_⟩) (PyProof.Rows.args_list_sort _)))
    obtain ⟨e', he'⟩ := PyProof.Rows.sortedHeap_at (vs := us) (out := (PySem.W.sortVals (PySem.W.dataKind (PySem.W.sortingHeap (h'.push (seqObj "list" us.toArray 0)) h'.objs.size us) (pds ds)) false us us).toArray) hoL
    have np : H h'.objs.size = none := I1.hok.fresh (Nat.le_refl _)
    have perm : (ds.mergeSort (PySem.W.sortLe (PySem.W.dataKind (PySem.W.sortingHeap (h'.push (seqObj "list" us.toArray 0)) h'.objs.size us) (pds ds)).toKeyOrd false fun d : D => PySem.W.keyToks (pd d))).Perm ds := List.mergeSort_perm _ _
    have srt := PySem.W.sort_pairwise (PySem.W.sortLe_total (PySem.W.dataKind (PySem.W.sortingHeap (h'.push (seqObj "list" us.toArray 0)) h'.objs.size us) (pds ds)).toKeyOrd false fun d : D => PySem.W.keyToks (pd d)) ds
    have hlen2 : vs'.length ≤ sizeLine := by rw [← r'.length, perm.length_eq]; exact hz
    refine wpAny_pure ⟨_, rfl, .ref h'.objs.size, upd H h'.objs.size (.lst vs'), I1.laid (t' := tk) (fun b u e => ?_) (Nat.le_refl _)
      (show ObjOk X.prog X.w _ _ _ (.lst vs') from ⟨hlen2, _, e', v', he'⟩), rfl, ?_⟩
    · have hb : b < h'.objs.size := Heap.lt_size e
      rw [PyProof.Rows.sortedHeap_old (Nat.ne_of_lt hb) (by rw [size_push']; exact Nat.lt_succ_of_lt hb)]
      exact Heap.get?_push_of_some _ e
    · exact hc.new hH np r' (k _ _ perm srt (hH.nofresh np))
  · exact each_mem (each_reads I2 pu r hv) fun u d hd ⟨as, q⟩ => PySem.W.dataKind_some (allAlike al) (pd_mem hd) q
theorem collect_tup {prog : Program} {w : World} {A : Around} {E : Value → Shared → Prop} {s : Shared} {l : Addr} {vs : List Value} {Q : List Value → Shared → Prop} (hl : s.heap.IsTuple l vs.toArray)
    (h : Q vs { s with heap := (s.heap.push (seqObj "list" #[] 0)).update s.heap.objs.size (Obj.mapSeq (· ++ vs.toArray)) }) (hsz : vs.length ≤ sizeLine) :
    wpAny (model prog w) A (collect (.ref l)) Q E s := by
  obtain ⟨o, ho, hc, n, hd⟩ := id hl
  unfold collect
  refine wpAny_bind (wpAny_runValue (codeAny_builtin entry_proto_collect' ?_))
  show wpAny _ _ (do again (.builtin "list.__iadd__" ⟨[← newList [], .ref l], []⟩)) _ _ s
  refine wpAny_bind (wpAny_newList (wpAny_pure ⟨Code.quiet_builtin _ (by decide +kernel), codeAny_builtin entry_list_iadd' ?_⟩))
  show wpAny _ _ (Builtin.List.listExtendWith (.ref s.heap.objs.size) (.ref l) (.ref s.heap.objs.size)) _ _ { s with heap := s.heap.push (seqObj "list" #[] 0) }
  unfold Builtin.List.listExtendWith
  have ho' : (s.heap.push (seqObj "list" #[] 0)).get? l = some o := Heap.get?_push_of_some _ ho
  refine wpAny_bind (wpAny_typeOf (T := "tuple") ⟨o, ho', hc⟩ ?_)
  have ht : (Value.type "tuple" == Value.type "tuple") = true := by rfl
  rw [if_pos (by rw [ht]; simp)]
  refine wpAny_bind (listItems_at ho' hd ?_)
  refine wpAny_bind (listItems_at (xs := #[]) (n := 0) (Heap.get?_push_size _ rfl) rfl ?_)
  rw [if_neg (by simp)]
  refine wpAny_bind (listUpdate_at (xs := #[]) (n := 0) (Heap.get?_push_size _ rfl) rfl ?_ (Nat.zero_le _) (by show (#[] ++ vs.toArray).size ≤ sizeLine + 1; simp only [Array.size_append, List.size_toArray, List.length_nil]; omega))
  refine wpAny_pure ?_
  show wpAny (model prog w) A (do
      let o ← load s.heap.objs.size
      match o.data with
      | .seq xs _ => pure xs.toList
      | _ => unsupported "internal:collect") Q E { s with heap := (s.heap.push (seqObj "list" #[] 0)).update s.heap.objs.size (Obj.mapSeq (· ++ vs.toArray)) }
  refine wpAny_bind (wpAny_load (get?_update_seq (Heap.get?_push_size _ rfl) _) ?_)
  show wpAny _ _ (pure ((#[] : Array Value) ++ vs.toArray).toList) Q E _
  rw [show ((#[] : Array Value) ++ vs.toArray).toList = vs by simp]
  exact wpAny_pure h
theorem keep_coll {h : Heap} {us : List Value} {b : Addr} {o : Obj} (e : h.get? b = some o) : ((h.push (seqObj "list" #[] 0)).update h.objs.size (Obj.mapSeq (· ++ us.toArray))).get? b = some o := by
  rw [Heap.get?_update_ne _ _ _ _ (Nat.ne_of_lt (Heap.lt_size e))]
  exact Heap.get?_push_of_some _ e
theorem keys_vals {ks : List L2.Key} {acc : List Value} (hl : acc.length = ks.length) (h : ∀ (j : Nat) (v : Value), acc[j]? = some v → ∃ k, ks[j]? = some k ∧ keyIs k v = true) : Vals (ks.map kV) acc := by
  induction ks generalizing acc with
  | nil =>
    have : acc = [] := List.eq_nil_of_length_eq_zero hl
    subst this; exact .nil
  | cons p r ih =>
    cases acc with
    | nil => simp at hl
    | cons v t =>
      refine .cons ?_ (ih (by simpa using hl) fun j u e => by simpa using h (j + 1) u (by simpa using e))
      obtain ⟨k, e1, e2⟩ := h 0 v rfl
      have e1 : p = k := by simpa using e1
      subst e1
      rcases keyIs_shape e2 with ⟨i, t, ek, ev⟩ | ⟨z, t, ek, ev⟩
      · cases ek; exact ⟨t, ev⟩
      · cases ek; exact ⟨t, ev⟩
theorem reps_keys {K : KW} {H : Hp} {kvs : Kvs} {kv : List (L2.Key × V)} (r : RepKs K H kvs kv) : RepVs K H (kvs.map (·.1)) ((kv.map (·.1)).map kV) := by
  induction r with
  | nil => exact .nil
  | cons h _ ih => exact .cons h.2.1 ih
theorem xd_sorted (hu : X.A.units + 64 < cLine) (hcalm : X.calm = true) : CallR X (.builtin "sorted") (lowC X.kw (on1 sortedD)) := by
  intro pins s σ H vs us QV I r0 ⟨ds0, h, Q, rv0, hH, hr, hc⟩
  obtain ⟨d, rfl, hr⟩ := on1_inv hr
  obtain ⟨x, rfl, rx⟩ := rep1 rv0
  obtain ⟨u, eu, ru⟩ := vals1 r0
  subst eu
  have lst : ∀ {a : Addr} {vs : List V} {ds : List D}, x = .ref a → SqL X.K H a vs → RepVs X.kw H ds vs → sortK ds h Q → wpAny (model X.prog X.w) X.A (call (.builtin "sorted") [u]) (EP X pins σ QV) X.xe s := by
    rintro a vs ds rfl sq rs k
    cases ru
    obtain ⟨its, rv, tp, hz⟩ := I.list sq
    exact sort_from hu I hH rs k hc fun R q => PyProof.Rows.collect_list tp.isList (q _ _ its (fun b o e => keep_coll e) rv) (by rw [← rv.length]; exact hz)
  cases d with
  | tup ds =>
    obtain ⟨a, vs, rfl, sq, rs⟩ := rx
    cases ru
    obtain ⟨its, rv, tp, hz⟩ := I.tuple sq
    exact sort_from hu I hH rs hr hc fun R q => collect_tup tp (q _ _ its (fun b o e => keep_coll e) rv) (by rw [← rv.length]; exact hz)
  | rol ds =>
    obtain ⟨a, vs, ex, sq, rs⟩ := rx
    exact lst ex sq.sq rs hr
  | ref a =>
    have ex : x = .ref a := rx
    have hr : sortO h Q (h a) := hr
    cases q : h a with
    | none => rw [q] at hr; exact hr.elim
    | some o =>
      rw [q] at hr
      cases o with
      | lst ds =>
        obtain ⟨vs, eH, rs⟩ := hH a _ q
        exact lst ex (SqL.of eH) rs hr
      | dic kvs =>
        obtain ⟨hall, hk⟩ := hr
        subst ex
        cases ru
        obtain ⟨K⟩ := as_K I (hH a _ q) hall
        obtain ⟨z, lo, vs0, rel, dd⟩ := dk_of (K.to_ s I).hok upd_same
        obtain ⟨ep, hat⟩ := dd.dictAt
        have hl : vs0.length = K.kv.length := by
          have e := congrArg List.length rel.keys
          rw [List.length_map, List.length_map] at e
          exact e.symm
        have h16 : vs0.length ≤ sizeLine := by rw [hl]; exact z
        refine sort_from hu I hH (reps_keys K.rep) hk hc fun R qq => PySem.W.kdu_collect (A := X.A.in1) (PySem.W.kdl_dict (knd := mixKind X.prog X.w) (kvs := vs0) (ep := ep) lo) (I.ok.hd hcalm) hat h16 fun h' tk acc hk hacc => qq h' tk acc.toList hk ?_
        rw [rel.keys]
        refine keys_vals (by rw [Array.length_toList, hacc.1, List.length_map]) fun j v e => ?_
        obtain ⟨k, x, e1, e2⟩ := hacc.2 j v (by rw [← Array.getElem?_toList]; exact e)
        exact ⟨k, by rw [List.getElem?_map, e1]; rfl, e2⟩
      | ins _ _ => exact hr.elim
  | _ => exact hr.elim
end
end DL
namespace DL
open PySem PySem.Spec PyProof.Rows L2
/-! xs[::-1] -/
section
variable {prog : Program} {w : World} {A : Around} {E : Value → Shared → Prop} {s : Shared}
theorem adjust_rev (n : Nat) : Builtin.Slice.sliceAdjust none none (-1) (n : Int) = ((n : Int) - 1, -1) := by
  unfold Builtin.Slice.sliceAdjust
  simp
theorem places_rev (n : Nat) : Builtin.Slice.slicePlaces ((n : Int) - 1) (-1) (-1) = n := by
  unfold Builtin.Slice.slicePlaces
  rw [if_neg (show ¬ ((-1 : Int) > 0) by decide)]
  by_cases h : ((n : Int) - 1) > -1
  · rw [if_pos h, show (-(-1) : Int) = 1 by decide, Int.ediv_one]; omega
  · rw [if_neg h]; omega
theorem sliceApplied_rev {sl : Addr} {vl vu vk : Value} {n : Nat} {Q : Int × Int × Nat → Shared → Prop} (hs : s.heap.IsSliceOf sl vl vu vk) (pl : IsPart vl none) (pu : IsPart vu none) (pk : IsPart vk (some (-1)))
    (h : Q ((n : Int) - 1, -1, n) s) : wpAny (model prog w) A (Builtin.Slice.sliceApplied (.ref sl) (pure (n : Int))) Q E s := by
  obtain ⟨os, hos, hcs, hds⟩ := id hs
  unfold Builtin.Slice.sliceApplied Builtin.Slice.sliceFields
  refine wpAny_bind (wpAny_bind (wpAny_field hos hds (x := vl) rfl (wpAny_bind (wpAny_field hos hds (x := vu) rfl (wpAny_bind (wpAny_field hos hds (x := vk) rfl (wpAny_pure ?_)))))))
  refine wpAny_bind (HT.slicePart_ pk ?_)
  show wpAny _ _ (if ((-1 : Int) == 0) = true then _ else _) _ _ s
  rw [if_neg (by decide)]
  refine wpAny_bind (HT.slicePart_ pl (wpAny_bind (HT.slicePart_ pu (wpAny_bind (wpAny_pure ?_)))))
  show wpAny _ _ (match Builtin.Slice.sliceAdjust none none (-1) (n : Int) with | (lo, hi) => pure (lo, (-1 : Int), Builtin.Slice.slicePlaces lo hi (-1))) _ _ s
  rw [adjust_rev n]
  show wpAny _ _ (pure ((n : Int) - 1, (-1 : Int), Builtin.Slice.slicePlaces ((n : Int) - 1) (-1) (-1))) _ _ s
  rw [places_rev]
  exact wpAny_pure h
theorem fm_congr {α β : Type} {f g : α → Option β} : ∀ {l : List α}, (∀ x ∈ l, f x = g x) → l.filterMap f = l.filterMap g
  | [], _ => rfl
  | x :: l, h => by
    rw [List.filterMap_cons, List.filterMap_cons, h x (by simp), fm_congr fun y hy => h y (List.mem_cons_of_mem _ hy)]
theorem pick_rev (xs : Array Value) : ((List.range xs.size).filterMap fun (m : Nat) => xs[(((xs.size : Int) - 1) + (m : Int) * -1).toNat]?).toArray = xs.toList.reverse.toArray := by
  have e : ((List.range xs.size).filterMap fun (m : Nat) => xs[(((xs.size : Int) - 1) + (m : Int) * -1).toNat]?) = ((List.range xs.size).map fun k => xs.size - 1 - k).filterMap (xs[·]?) := by
    rw [List.filterMap_map]
    refine fm_congr fun m hm => ?_
    have := List.mem_range.mp hm
    show xs[_]? = xs[xs.size - 1 - m]?
    congr 1; omega
  rw [e, PySem.W.krv_range, List.filterMap_reverse, PySem.W.krv_all]
theorem getItem_tuple_rev {t sl : Addr} {items : Array Value} {vl vu vk : Value} {Q : Value → Shared → Prop} (ht : IsTup s.heap t items) (hs : s.heap.IsSliceOf sl vl vu vk) (pl : IsPart vl none) (pu : IsPart vu none) (pk : IsPart vk (some (-1)))
    (h : Q (.ref s.heap.objs.size) { s with heap := s.heap.push { cls := .type "tuple", data := .seq items.toList.reverse.toArray } })
    (hsz : items.size ≤ sizeLine) : wpAny (model prog w) A (getItem (.ref t) (.ref sl)) Q E s := by
  have htake : sizeOk (.seq items.toList.reverse.toArray) := by
    show items.toList.reverse.toArray.size ≤ sizeLine
    rw [List.size_toArray, List.length_reverse, Array.length_toList]
    exact hsz
  obtain ⟨os, hos, hcs, hds⟩ := id hs
  have hTs : s.TypeIs (.ref sl) "slice" := ⟨os, hos, hcs⟩
  unfold getItem
  try with_reducible refine wpAny_holding ?_
  first | refine wpAny_bind (wpAny_pure ?_) | skip
  refine wpAny_bind (wpAny_sequenceKey ht.typeIs (by decide) ?_)
  refine wpAny_bind (wpAny_callSpecial?_slot (name := Str.ofString "__getitem__") ht.typeIs PyProof.Rows.slot_tuple_getitem
    (wpAny_call_entry PyProof.Rows.slot_tuple_getitem ht.typeIs entry_tuple_getitem ?_ (args_tuple_getitem _ _)))
  show wpAny _ _ (Builtin.Tuple.tupleItemsOf (.ref t) >>= _) _ _ s
  refine wpAny_bind (tupleItemsOf_ ht ?_)
  refine wpAny_bind (wpAny_typeOf hTs ?_)
  rw [if_pos (by decide)]
  refine wpAny_bind (sliceApplied_rev hs pl pu pk ?_)
  have hno : ¬ ((((items.size : Int) - 1) == 0 && (-1 : Int) == 1 && items.size == items.size) = true) := by
    rw [show ((-1 : Int) == 1) = false by decide]; simp
  show wpAny _ _ (if (((items.size : Int) - 1) == 0 && (-1 : Int) == 1 && items.size == items.size) = true then _ else _) _ _ s
  rw [if_neg hno, pick_rev]
  first
    | exact wpAny_bind (m := Builtin.Tuple.tupleExact _) (wpAny_newObj_type (wpAny_pure ⟨_, rfl, wpAny_pure h⟩) htake)
    | exact wpAny_bind (m := Builtin.Tuple.tupleExact _) (wpAny_newObj_type (wpAny_bind (wpAny_pure (wpAny_pure ⟨_, rfl, wpAny_pure h⟩))) htake)
    | exact wpAny_bind (wpAny_bind (m := Builtin.Tuple.tupleExact _) (wpAny_newObj_type (wpAny_pure (wpAny_pure ⟨_, rfl, wpAny_pure h⟩)) htake))
    | exact wpAny_bind (wpAny_bind (m := Builtin.Tuple.tupleExact _) (wpAny_newObj_type (wpAny_pure ⟨_, rfl, wpAny_pure h⟩) htake))
end
def tRevA (K : PySem.W.Frag) (te : TE) : TE := fun σ H Q => te σ H fun x H1 => (∃ a xs, x = .ref a ∧ SqL K H1 a xs ∧ ∀ p, H1 p = none → Q (.ref p) (upd H1 p (.lst xs.reverse))) ∨ (∃ a xs, x = .ref a ∧ SqT K H1 a xs ∧ ∀ p, H1 p = none → Q (.ref p) (upd H1 p (.tup xs.reverse)))
theorem pe_revA {X : Cx} {te : TE} {e : Expr} {k : Nat} {p1 p2 p3 pos : Pos} (he : PE X e te) : PE X (.Subscript e (.Slice none none (some (.UnaryOp .USub (.Constant (.int 1) k p1) p2)) p3) pos) (tRevA X.K te) := by
  refine ⟨fun pins s σ H Q I h => ?_⟩
  refine Subscript_ (thn (he.run pins s σ H _ I h) fun v s1 ⟨x, H1, I1, r1, q1⟩ => ?_)
  have hst : PO X (some (.UnaryOp .USub (.Constant (.int 1) k p1) p2)) (tPart (tUn (rU fun i => .int (-i)) (tC (.int 1)))) := po_some (pe_un un_neg pe_int)
  refine wpAny_Slice (thn (po_none.run pins s1 σ H1 (fun o H2 => o = none ∧ H2 = H1) I1 ⟨rfl, rfl⟩) fun vl s2 ⟨l, H2, I2, pl, el, e2⟩ => ?_)
  subst el e2
  refine thn (po_none.run pins s2 σ H2 (fun o H3 => o = none ∧ H3 = H2) I2 ⟨rfl, rfl⟩) fun vu s3 ⟨u, H3, I3, pu, eu, e3⟩ => ?_
  subst eu e3
  refine thn (hst.run pins s3 σ H3 (fun o H4 => o = some (-1) ∧ H4 = H3) I3 ⟨1, rfl, -1, rfl, rfl, rfl⟩) fun vs s4 ⟨o, H4, I4, ps, eo, e4⟩ => ?_
  subst eo e4
  have I5 : Inv X pins σ H4 { s4 with heap := s4.heap.push { cls := .type "slice", data := .fields #[vl, vu, vs] } } := I4.kept (t' := s4.toks) fun b ob q => Heap.get?_push_of_some _ q
  rcases q1 with ⟨a, xs, ex, hx, q⟩ | ⟨a, xs, ex, hx, q⟩
  · subst ex
    cases r1
    obtain ⟨its, r, ht, hz⟩ := I5.list hx
    have hlen := r.length
    show wpAny (model X.prog X.w) X.A (subscriptTail e (.Slice none none (some (.UnaryOp .USub (.Constant (.int 1) k p1) p2)) p3) (.ref a) (.ref s4.heap.objs.size)) (EP X pins σ Q) X.xe { s4 with heap := s4.heap.push { cls := .type "slice", data := .fields #[vl, vu, vs] } }
    refine tail_any (ops := [.ref a, .ref s4.heap.objs.size]) ht.isList.typeIs (PySem.slot_list_getitem.lookup) ?_ (by with_unfolding_all rfl)
    refine wpAny_getItem_list_slice ht.isList (Heap.IsSliceOf.new _ vl vu vs) pl pu ps (by decide) ?_ (by rw [List.size_toArray]; omega)
    rw [PySem.W.krv_pick]
    refine ⟨.ref _, _, I5.laid (t' := s4.toks) (o := .lst xs.reverse) (fun b ob q => Heap.get?_push_of_some _ q) (Nat.le_refl _) ?_, rfl, q _ (I5.hok.fresh (Nat.le_refl _))⟩
    exact ⟨by rw [List.length_reverse]; exact hz, _, 0, r.reverse, Heap.get?_push_size _ rfl⟩
  · subst ex
    cases r1
    obtain ⟨its, r, ht, hz⟩ := I5.tuple hx
    have hlen := r.length
    show wpAny (model X.prog X.w) X.A (subscriptTail e (.Slice none none (some (.UnaryOp .USub (.Constant (.int 1) k p1) p2)) p3) (.ref a) (.ref s4.heap.objs.size)) (EP X pins σ Q) X.xe { s4 with heap := s4.heap.push { cls := .type "slice", data := .fields #[vl, vu, vs] } }
    refine tail_any (ops := [.ref a, .ref s4.heap.objs.size]) ht.typeIs (PyProof.Rows.slot_tuple_getitem.lookup) ?_ (by with_unfolding_all rfl)
    refine getItem_tuple_rev ht (Heap.IsSliceOf.new _ vl vu vs) pl pu ps ?_ (by rw [List.size_toArray]; omega)
    refine ⟨.ref _, _, I5.laid (t' := s4.toks) (o := .tup xs.reverse) (fun b ob q => Heap.get?_push_of_some _ q) (Nat.le_refl _) ?_, rfl, q _ (I5.hok.fresh (Nat.le_refl _))⟩
    exact ⟨by rw [List.length_reverse]; exact hz, _, r.reverse, IsTup.new _ _⟩
def revD (x : D) (h : MH) (Q : KD) : Prop := match x with
  | .ref a => lstK (fun xs => ∀ p, h p = none → Q (.ref p) (up h p (.lst xs.reverse))) (h a)
  | .rol xs => ∀ p, h p = none → Q (.ref p) (up h p (.lst xs.reverse))
  | .tup xs => Q (.tup xs.reverse) h
  | _ => False
theorem de_revL {X : Cx} {e : Expr} {te : E1} {k : Nat} {p1 p2 p3 pos : Pos} (he : DE X e te) : DE X (.Subscript e (.Slice none none (some (.UnaryOp .USub (.Constant (.int 1) k p1) p2)) p3) pos) (dUn revD te) :=
  weakE (pe_revA he) fun σV H QV ⟨σ, h, Q, hE, hH, ht, hc⟩ => ⟨σ, h, _, hE, hH, ht, fun d h' v H' s' r' rv q => by
    cases d with
    | rol xs =>
      obtain ⟨a, vs, rfl, s, r⟩ := rv
      exact .inl ⟨a, vs, rfl, s.sq, fun p np => (hc.step s').new r' np (.of (P2.reverse r.pair)) (q p (r'.nofresh np))⟩
    | ref a =>
      cases (show v = _ from rv)
      obtain ⟨xs, e, q⟩ := lstK_inv q
      obtain ⟨vs, eH, r⟩ := r' a _ e
      exact .inl ⟨a, vs, rfl, SqL.of eH, fun p np => (hc.step s').new r' np (.of (P2.reverse r.pair)) (q p (r'.nofresh np))⟩
    | tup xs =>
      obtain ⟨a, vs, rfl, s, r⟩ := rv
      exact .inr ⟨a, vs, rfl, s, fun p np => (hc.step s').tup r' np (.of (P2.reverse r.pair)) q⟩
    | _ => exact q.elim⟩
/-! how long a repr is -/
def sh (c : Nat) (d : D) : Prop := (pd d).showable = true ∧ (pd d).shown.length ≤ c
theorem sh_none : sh 4 .none := ⟨by simp [pd, PyData.showable], by simp only [pd, PyData.shown]; decide⟩
theorem sh_bool (b : Bool) : sh 5 (.bool b) := ⟨by simp [pd, PyData.showable], by simp only [pd, PyData.shown]; cases b <;> decide⟩
theorem sh_int {i : Int} (h : i.natAbs < 2 ^ 64) : sh 65 (.int i) := by
  have l : i.natAbs.log2 < 64 := by
    by_cases z : i.natAbs = 0
    · rw [z]; decide
    · exact (Nat.log2_lt z).mpr h
  refine ⟨by simp only [pd, PyData.showable]; exact decide_eq_true (by omega), ?_⟩
  simp only [pd, PyData.shown]
  rw [PySem.ofString_length]
  exact int_text_length_le (by decide) l
theorem sh_str {x : Str} {n : Nat} (o : PyData.strOk x = true) (h : x.length ≤ n) : sh (10 * n + 2) (.str x) := by
  refine ⟨by simp [pd, PyData.showable], ?_⟩
  simp only [pd, PyData.shown]
  refine Nat.le_trans (PySem.StrLaws.reprText_len x fun c hc => Nat.lt_trans (okC_iff.mp o c hc) (by decide)) (by omega)
theorem piled_le {c : Nat} : ∀ ts : List Str, (∀ t ∈ ts, t.length ≤ c) → piled ts ≤ ts.length * (c + 2)
  | [], _ => by simp [piled_nil]
  | t :: r, h => by
    have := piled_le r fun u hu => h u (by simp [hu])
    have := h t (by simp)
    rw [piled_cons, List.length_cons, Nat.succ_mul]; omega
theorem shAll_of {c : Nat} : ∀ {ds : List D}, (∀ d ∈ ds, sh c d) → PyData.showableAll (pds ds) = true ∧ (PyData.shownAll (pds ds)).length = ds.length ∧ ∀ t ∈ PyData.shownAll (pds ds), t.length ≤ c
  | [], _ => by simp [pds, PyData.showableAll, PyData.shownAll]
  | d :: ds, h => by
    obtain ⟨a, b, e⟩ := shAll_of (ds := ds) fun x hx => h x (by simp [hx])
    obtain ⟨f, g⟩ := h d (by simp)
    refine ⟨by simp only [pds, PyData.showableAll, f, a]; rfl, by simp only [pds, PyData.shownAll, List.length_cons, b], fun t ht => ?_⟩
    simp only [pds, PyData.shownAll, List.mem_cons] at ht
    rcases ht with rfl | ht
    · exact g
    · exact e t ht
theorem str_app_len (a b : Str) : (a ++ b).length = a.length + b.length := by show (a.cps ++ b.cps).size = _; rw [Array.size_append]; rfl
theorem sh_tup {c n : Nat} {ds : List D} (h : ∀ d ∈ ds, sh c d) (hn : ds.length ≤ n) : sh (n * (c + 2) + 3) (.tup ds) := by
  obtain ⟨a, b, e⟩ := shAll_of h
  refine ⟨by simp only [pd, PyData.showable]; exact a, ?_⟩
  simp only [pd, PyData.shown]
  unfold tupleText
  have hj : (Str.join ", " (PyData.shownAll (pds ds))).length ≤ n * (c + 2) := by
    by_cases z : PyData.shownAll (pds ds) = []
    · rw [z]; exact Nat.zero_le _
    · have h1 := join_length_add _ z
      have h2 := piled_le _ e
      rw [b] at h2
      have h3 : ds.length * (c + 2) ≤ n * (c + 2) := Nat.mul_le_mul_right _ hn
      omega
  rw [str_app_len, str_app_len]
  have h1 : (("(" : String) : Str).length = 1 := by decide
  have h2 : (Str.ofString (if ((PyData.shownAll (pds ds)).length == 1) = true then ",)" else ")")).length ≤ 2 := by split <;> decide
  have h1' : Str.length ("(" : String) = 1 := h1
  have h2' : Str.length (if ((PyData.shownAll (pds ds)).length == 1) = true then ",)" else ")" : String) ≤ 2 := h2
  omega
theorem sh_up {c c' : Nat} {d : D} (h : sh c d) (l : c ≤ c') : sh c' d := ⟨h.1, Nat.le_trans h.2 l⟩
theorem repr_go {c : Nat} {x : D} {h : MH} {Q : KD} (p : pure? 60 x = true) (s : sh c x) (hc : c ≤ sizeLine) (q : Q (.str (pd x).shown) h) : reprD x h Q := ⟨p, s.1, Nat.le_trans s.2 hc, q⟩
end DL
namespace DL
open PySem PySem.Spec PyProof.Rows L2
/-! ### evaluation by simp -/
abbrev D1 := DL.D
theorem atI_z {α : Type} (x : α) (r : List α) : atI (x :: r) 0 = some x := atI_nat (j := 0) rfl
theorem atI_1 {α : Type} (x y : α) (r : List α) : atI (x :: y :: r) 1 = some y := atI_nat (j := 1) rfl
theorem atI_2 {α : Type} (x y z : α) (r : List α) : atI (x :: y :: z :: r) 2 = some z := atI_nat (j := 2) rfl
theorem atI_3 {α : Type} (x y z u : α) (r : List α) : atI (x :: y :: z :: u :: r) 3 = some u := atI_nat (j := 3) rfl
theorem atI_4 {α : Type} (x y z u v : α) (r : List α) : atI (x :: y :: z :: u :: v :: r) 4 = some v := atI_nat (j := 4) rfl
theorem ixN_of {n : Nat} {i : Int} {k : Nat} (e : i = (k : Int)) (h : k < n) : ixN n i = some k := by
  subst e
  unfold ixN
  rw [if_pos (by omega), if_pos (by omega)]; rfl
theorem ixN_last {n : Nat} (h : 0 < n) : ixN n (-1) = some (n - 1) := by
  unfold ixN
  rw [if_neg (by omega), if_pos (by omega)]
  congr 1; omega
theorem atI_of {α : Type} {xs : List α} {i : Int} {k : Nat} {x : α} (e : i = (k : Int)) (h : xs[k]? = some x) : atI xs i = some x := by subst e; exact atI_nat h
theorem atI_neg {α : Type} {xs : List α} {x : α} (h : xs.getLast? = some x) : atI xs (-1) = some x := by
  unfold atI
  cases xs with
  | nil => cases h
  | cons y r =>
    rw [ixN_last (by rw [List.length_cons]; omega)]
    rw [List.getLast?_eq_getElem?] at h
    exact h
theorem lh_of {Q : KD} {d : D} {h : MH} (q : Q d h) : Lh Q d h := ⟨h, le.refl, q⟩
theorem up_com {h : MH} {a b : Addr} {x y : MO} (n : a ≠ b) : up (up h a x) b y = up (up h b y) a x := by
  funext c; unfold up; by_cases p : c = a <;> by_cases q : c = b <;> simp_all
/-- equality of data -/
theorem eqv_int (i j : Int) : PyData.eqv (.int i) (.int j) = decide (i = j) := by simp [PyData.eqv, Bool.beq_eq_decide_eq]
theorem eqv_str (i j : Str) : PyData.eqv (.str i) (.str j) = decide (i = j) := by
  simp only [PyData.eqv]
  by_cases e : i = j
  · subst e; simp
  · rw [decide_eq_false e]; exact beq_eq_false_iff_ne.mpr e
section
variable {σ : Sl} {h : MH} {Q : KD} {D : Nd}
/-! every step by its form; nothing is opened that is not at hand -/
theorem e_seq {t u : S1} : dSeq t u D σ h = t { D with nx := u D } σ h := rfl
theorem e_next : dNext D σ h = D.nx σ h := rfl
theorem e_brk : dBrk D σ h = D.bk σ h := rfl
theorem e_cnt : dCnt D σ h = D.ct σ h := rfl
theorem e_drop {t : E1} : dDrop t D σ h = t σ h fun _ h1 => D.nx σ h1 := rfl
theorem e_ret {t : E1} : dRet t D σ h = t σ h D.rt := rfl
theorem e_retN : dRetN D σ h = D.rt .none h := rfl
theorem e_ifS {c : T1} {t u : S1} : dIfS c t u D σ h = c σ h fun b h1 => if b = true then t D σ h1 else u D σ h1 := rfl
theorem e_asg {t : E1} {g : G1} : dAsg t g D σ h = t σ h fun x h1 => g x σ h1 D.nx := rfl
theorem e_gN {i : Nat} {d : D1} {n : Sl → MH → Prop} : gN i d σ h n = n (put σ i (some d)) h := rfl
theorem e_gSb {to ti : E1} {t : Set1} {d : D1} {n : Sl → MH → Prop} : gSb to ti t d σ h n = to σ h fun o h1 => ti σ h1 fun i h2 => t o i d h2 fun h3 => n σ h3 := rfl
theorem e_gTp {k : Nat} {gs : Gs1} {ds : List D1} {n : Sl → MH → Prop} : gTp k gs (.tup ds) σ h n = (ds.length = k ∧ gs ds σ h n) := rfl
theorem e_gCn {g : G1} {gs : Gs1} {d : D1} {r : List D1} {n : Sl → MH → Prop} : gCn g gs (d :: r) σ h n = g d σ h fun σ' h' => gs r σ' h' n := rfl
theorem e_gNl {n : Sl → MH → Prop} : gNl [] σ h n = n σ h := rfl
def varK (o : Option D1) (h : MH) (Q : KD) : Prop := match o with | some d => Q d h | none => False
theorem e_var {i : Nat} : dVar i σ h Q = varK (nth σ i) h Q := rfl
theorem e_varK {d : D1} : varK (some d) h Q = Q d h := rfl
theorem e_nth0 {x : Option D1} {r : Sl} : nth (x :: r) 0 = x := rfl
theorem e_nthS {x : Option D1} {r : Sl} {n : Nat} : nth (x :: r) (n + 1) = nth r n := rfl
theorem e_put0 {x d : Option D1} {r : Sl} : put (x :: r) 0 d = d :: r := rfl
theorem e_putS {x d : Option D1} {r : Sl} {n : Nat} : put (x :: r) (n + 1) d = x :: put r n d := rfl
theorem e_c {d : D1} : dC d σ h Q = Q d h := rfl
theorem e_op {r : R1} {ta tb : E1} : dOp r ta tb σ h Q = ta σ h fun x h1 => tb σ h1 fun y h2 => r x y h2 Q := rfl
theorem e_un {r : D1 → MH → KD → Prop} {t : E1} : dUn r t σ h Q = t σ h fun x h1 => r x h1 Q := rfl
theorem e_call {r : C1} {t : A1} : dCall r t σ h Q = t σ h fun ds h1 => r ds h1 Q := rfl
theorem e_nil {QA : List D1 → MH → Prop} : dNil σ h QA = QA [] h := rfl
theorem e_cons {t : E1} {r : A1} {QA : List D1 → MH → Prop} : dCons t r σ h QA = t σ h fun x h1 => r σ h1 fun xs h2 => QA (x :: xs) h2 := rfl
theorem e_tup {t : A1} : dTup t σ h Q = t σ h fun ds h1 => ds.length ≤ sizeLine ∧ Q (.tup ds) h1 := rfl
theorem e_lst {t : A1} : dLst t σ h Q = t σ h fun ds h1 => ds.length ≤ sizeLine ∧ ∀ p, h1 p = none → Q (.ref p) (up h1 p (.lst ds)) := rfl
theorem e_test {t : E1} {QB : Bool → MH → Prop} : dTest t σ h QB = t σ h (asB QB) := rfl
theorem e_asB {k : Bool} {QB : Bool → MH → Prop} : asB QB (.bool k) h = QB k h := rfl
theorem e_tru {t : E1} {QB : Bool → MH → Prop} : dTru t σ h QB = t σ h fun x h1 => truD x h1 QB := rfl
theorem e_andT {t u : T1} {QB : Bool → MH → Prop} : dAndT t u σ h QB = t σ h fun c h1 => if c = true then u σ h1 QB else QB false h1 := rfl
theorem e_orT {t u : T1} {QB : Bool → MH → Prop} : dOrT t u σ h QB = t σ h fun c h1 => if c = true then QB true h1 else u σ h1 QB := rfl
theorem e_notT {t : T1} {QB : Bool → MH → Prop} : dNotT t σ h QB = t σ h fun c h1 => QB (!c) h1 := rfl
theorem e_andV {t u : E1} : dAndV t u σ h Q = t σ h (asB fun c h1 => if c = true then u σ h1 Q else Q (.bool false) h1) := rfl
theorem e_orV {t u : E1} : dOrV t u σ h Q = t σ h (asB fun c h1 => if c = true then Q (.bool true) h1 else u σ h1 Q) := rfl
theorem e_notV {t : E1} : dNotV t σ h Q = t σ h (asB fun c h1 => Q (.bool (!c)) h1) := rfl
theorem e_if {t : T1} {ta tb : E1} : dIf t ta tb σ h Q = t σ h fun c h1 => if c = true then ta σ h1 Q else tb σ h1 Q := rfl
theorem e_aug {i : Nat} {t : E1} {r : R1} : dAug i t r D σ h = varK (nth σ i) h fun x h0 => t σ h0 fun y h1 => r x y h1 fun z h2 => D.nx (put σ i (some z)) h2 := by
  unfold dAug varK; cases nth σ i <;> rfl
theorem e_augS {to ti te : E1} {r : R1} : dAugS to ti te r D σ h = to σ h fun o h1 => ti σ h1 fun i h2 => getD1 o i h2 fun x h3 => te σ h3 fun y h4 => r x y h4 fun z h5 => setD o i z h5 fun h6 => D.nx σ h6 := rfl
theorem e_sl {t : E1} {tl tu : O1} : dSl t tl tu σ h Q = t σ h fun x h1 => tl σ h1 fun lo h2 => tu σ h2 fun hi h3 => slD x lo hi h3 Q := rfl
def partK (x : D1) (h : MH) (QO : Option Int → MH → Prop) : Prop := match x with | .int i => QO (some i) h | _ => False
theorem e_part {t : E1} {QO : Option Int → MH → Prop} : dPart t σ h QO = t σ h fun x h1 => partK x h1 QO := rfl
theorem e_partK {i : Int} {QO : Option Int → MH → Prop} : partK (.int i) h QO = QO (some i) h := rfl
theorem e_noPart {QO : Option Int → MH → Prop} : dNoPart σ h QO = QO none h := rfl
theorem e_bm0 {ok : D1 → MH → Prop} {r : M1} {to : E1} : dBM0 ok r to σ h Q = to σ h fun x h1 => ok x h1 ∧ r x [] h1 Q := rfl
theorem e_bm {ok : D1 → MH → Prop} {r : M1} {to : E1} {t : A1} : dBM ok r to t σ h Q = to σ h fun x h1 => ok x h1 ∧ t σ h1 fun ds h2 => r x ds h2 Q := rfl
theorem e_join {to te : E1} : dJoin to te σ h Q = to σ h fun x h1 => (∃ z, x = .str z) ∧ te σ h1 fun y h2 => joinD x y h2 Q := rfl
theorem e_yes {QB : Bool → MH → Prop} : dYes σ h QB = QB true h := rfl
theorem e_wipe0 : wipeD σ [] = σ := rfl
theorem e_wipeS {v : Nat} {vs : List Nat} : wipeD σ (v :: vs) = put (wipeD σ vs) v none := rfl
/-- a comprehension behind its source -/
def lcT (xs : List D1) (stab : MH → Prop) (g : G1) (tt : T1) (te : E1) (vs : List Nat) (σ : Sl) (Q : KD) (h1 : MH) : Prop := xs.length ≤ sizeLine ∧ ∃ I : Nat → List D1 → MH → Prop, (∃ h0, le h0 h1 ∧ I 0 [] h0) ∧ (∀ i a h, I i a h → stab h) ∧
  (∀ i x a h, xs[i]? = some x → I i a h → g x (wipeD σ vs) h fun σ2 h2 => tt σ2 h2 fun b h3 => if b = true then te σ2 h3 fun y h4 => ∃ h5, le h5 h4 ∧ I (i + 1) (a ++ [y]) h5 else ∃ h5, le h5 h3 ∧ I (i + 1) a h5) ∧
  ∀ a h, I xs.length a h → ∀ p, h p = none → Q (.ref p) (up h p (.lst a))
theorem e_lc {it : I1} {g : G1} {tt : T1} {te : E1} {vs : List Nat} : dLc it g tt te vs σ h Q = it σ h fun xs stab h1 => lcT xs stab g tt te vs σ Q h1 := rfl
/-- a for behind its source -/
def forT (xs : List D1) (stab : MH → Prop) (g : G1) (tb : S1) (D : Nd) (σ : Sl) (h1 : MH) : Prop := ∃ I : Nat → Sl → MH → Prop, Lw (I 0) σ h1 ∧ (∀ i σ h, I i σ h → stab h) ∧
  (∀ i x σ h, xs[i]? = some x → I i σ h → g x σ h fun σ2 h2 => tb { D with nx := Lw (I (i + 1)), ct := Lw (I (i + 1)), bk := D.nx } σ2 h2) ∧ ∀ σ h, I xs.length σ h → D.nx σ h
theorem e_for {it : I1} {g : G1} {tb : S1} : dFor it g tb D σ h = it σ h fun xs stab h1 => forT xs stab g tb D σ h1 := rfl
/-- the value is f of the item, nothing is changed -/
theorem lcT_map {xs : List D1} {stab : MH → Prop} {g : G1} {te : E1} {vs : List Nat} (f : D1 → D1) (hz : xs.length ≤ sizeLine) (hs : stab h)
    (he : ∀ x ∈ xs, ∀ Q' : KD, Q' (f x) h → g x (wipeD σ vs) h fun σ2 h2 => te σ2 h2 Q') (fin : ∀ p, h p = none → Q (.ref p) (up h p (.lst (xs.map f)))) : lcT xs stab g dYes te vs σ Q h := by
  refine ⟨hz, fun i a hh => hh = h ∧ a = (xs.take i).map f, ⟨h, le.refl, rfl, rfl⟩, fun i a hh e => by rw [e.1]; exact hs, ?_, ?_⟩
  · rintro i x a hh hx ⟨rfl, rfl⟩
    obtain ⟨hi, ex⟩ := List.getElem?_eq_some_iff.mp hx
    refine he x (List.mem_of_getElem? hx) (fun y h4 => ∃ h5, le h5 h4 ∧ h5 = hh ∧ (xs.take i).map f ++ [y] = (xs.take (i + 1)).map f) ⟨hh, le.refl, rfl, ?_⟩
    rw [List.take_succ_eq_append_getElem hi, List.map_append, ex]; rfl
  · rintro a hh ⟨rfl, rfl⟩ p np
    rw [List.take_length]
    exact fin p np
/-! values -/
theorem v_add {i j : Int} : addD (.int i) (.int j) h Q = Q (.int (i + j)) h := rfl
theorem v_addS {a b : Str} : addD (.str a) (.str b) h Q = (a.length + b.length ≤ sizeLine ∧ Q (.str (a ++ b)) h) := rfl
theorem v_addT {a b : List D1} : addD (.tup a) (.tup b) h Q = (a.length + b.length ≤ sizeLine ∧ Q (.tup (a ++ b)) h) := rfl
theorem v_iadd {i j : Int} : iaddD (.int i) (.int j) h Q = Q (.int (i + j)) h := rfl
theorem v_sub {i j : Int} : subD (.int i) (.int j) h Q = Q (.int (i - j)) h := rfl
theorem v_mul {i j : Int} : mulD (.int i) (.int j) h Q = (mulOk i j ∧ Q (.int (i * j)) h) := rfl
theorem v_fdiv {i j : Int} : fdivD (.int i) (.int j) h Q = (divOk j ∧ Q (.int (i / j)) h) := rfl
theorem v_mod {i j : Int} : modD (.int i) (.int j) h Q = (0 < j ∧ Q (.int (i % j)) h) := rfl
theorem v_pow {i j : Int} : powD (.int i) (.int j) h Q = (CPow i j ∧ Q (.int (i ^ j.toNat)) h) := rfl
theorem v_shl {i j : Int} : shlD (.int i) (.int j) h Q = (CPow i j ∧ Q (.int (i * 2 ^ j.toNat)) h) := rfl
theorem v_shr {i j : Int} : shrD (.int i) (.int j) h Q = (0 ≤ j ∧ Q (.int (i / 2 ^ j.toNat)) h) := rfl
theorem v_neg {i : Int} : negD (.int i) h Q = Q (.int (-i)) h := rfl
theorem v_lt {i j : Int} : ltD (.int i) (.int j) h Q = Q (.bool (decide (i < j))) h := rfl
theorem v_le {i j : Int} : leD (.int i) (.int j) h Q = Q (.bool (decide (i ≤ j))) h := rfl
theorem v_gt {i j : Int} : gtD (.int i) (.int j) h Q = Q (.bool (decide (j < i))) h := rfl
theorem v_ge {i j : Int} : geD (.int i) (.int j) h Q = Q (.bool (decide (j ≤ i))) h := rfl
theorem v_eqI {i j : Int} : eqD (.int i) (.int j) h Q = Q (.bool (decide (i = j))) h := by show Q (.bool (PyData.eqv (.int i) (.int j))) h = _; rw [eqv_int]
theorem v_neI {i j : Int} : neD (.int i) (.int j) h Q = Q (.bool (!decide (i = j))) h := by show Q (.bool (!PyData.eqv (.int i) (.int j))) h = _; rw [eqv_int]
theorem v_eqS {i j : Str} : eqD (.str i) (.str j) h Q = Q (.bool (decide (i = j))) h := by show Q (.bool (PyData.eqv (.str i) (.str j))) h = _; rw [eqv_str]
theorem v_neS {i j : Str} : neD (.str i) (.str j) h Q = Q (.bool (!decide (i = j))) h := by show Q (.bool (!PyData.eqv (.str i) (.str j))) h = _; rw [eqv_str]
theorem v_inS {a z : Str} : inD (.str a) (.str z) h Q = Q (.bool (inS a z)) h := rfl
theorem v_ninS {a z : Str} : ninD (.str a) (.str z) h Q = Q (.bool (!inS a z)) h := rfl
theorem v_inT {x : D1} {ds : List D1} : inD x (.tup ds) h Q = inSeq x (fun b => Q (.bool b) h) ds := rfl
theorem v_ninT {x : D1} {ds : List D1} : ninD x (.tup ds) h Q = inSeq x (fun b => Q (.bool (!b)) h) ds := rfl
theorem v_inRol {x : D1} {ds : List D1} : inD x (.rol ds) h Q = inSeq x (fun b => Q (.bool b) h) ds := rfl
theorem v_ninRol {x : D1} {ds : List D1} : ninD x (.rol ds) h Q = inSeq x (fun b => Q (.bool (!b)) h) ds := rfl
theorem v_inR {x : D1} {a : Addr} : inD x (.ref a) h Q = inO x (fun b => Q (.bool b) h) (h a) := rfl
theorem v_ninR {x : D1} {a : Addr} : ninD x (.ref a) h Q = inO x (fun b => Q (.bool (!b)) h) (h a) := rfl
theorem v_inO {x : D1} {ds : List D1} {k : Bool → Prop} : inO x k (some (.lst ds)) = inSeq x k ds := rfl
theorem v_inOd {x : D1} {kvs : Kvs} {k : Bool → Prop} : inO x k (some (.dic kvs)) = inDic kvs x k := rfl
theorem v_inSeq {x : D1} {ds : List D1} {k : Bool → Prop} : inSeq x k ds = (pure? 60 x = true ∧ pures? 60 ds = true ∧ k (ds.any fun z => eqF z x)) := rfl
theorem v_inDic {x : D1} {kvs : Kvs} {k : Bool → Prop} : inDic kvs x k = (fit kvs x = true ∧ k (dget kvs x).isSome) := rfl
theorem v_seqO {ds : List D1} : seqO (some (.lst ds)) = some ds := rfl
theorem v_seqR {a : Addr} : seqOf h (.ref a) = seqO (h a) := rfl
theorem v_seqT {ds : List D1} : seqOf h (.tup ds) = some ds := rfl
theorem v_seqL {ds : List D1} : seqOf h (.rol ds) = some ds := rfl
def atK (o : Option D1) (h : MH) (Q : KD) : Prop := match o with | some d => Q d h | none => False
theorem v_ixR {a : Addr} {y : D1} : ixD (.ref a) y h Q = ixO y h Q (h a) := rfl
theorem v_ixT {ds : List D1} {y : D1} : ixD (.tup ds) y h Q = ixSeq ds y h Q := rfl
theorem v_ixL {ds : List D1} {y : D1} : ixD (.rol ds) y h Q = ixSeq ds y h Q := rfl
theorem v_ixS {z : Str} {y : D1} : ixD (.str z) y h Q = ixStr z y h Q := rfl
theorem v_ixO {ds : List D1} {y : D1} : ixO y h Q (some (.lst ds)) = ixSeq ds y h Q := rfl
theorem v_ixOd {kvs : Kvs} {y : D1} : ixO y h Q (some (.dic kvs)) = ixDic kvs y h Q := rfl
theorem v_ixSeq {ds : List D1} {i : Int} : ixSeq ds (.int i) h Q = atK (atI ds i) h Q := rfl
theorem v_ixDic {kvs : Kvs} {y : D1} : ixDic kvs y h Q = (fit kvs y = true ∧ dgetK h Q (dget kvs y)) := rfl
theorem v_dgetK {d : D1} : dgetK h Q (some d) = Q d h := rfl
theorem v_atK {d : D1} : atK (some d) h Q = Q d h := rfl
def atSK (o : Option Nat) (h : MH) (Q : KD) : Prop := match o with | some c => Q (.str ⟨#[c]⟩) h | none => False
theorem v_ixStr {z : Str} {i : Int} : ixStr z (.int i) h Q = atSK (atI z.cps.toList i) h Q := rfl
theorem v_atSK {c : Nat} : atSK (some c) h Q = Q (.str ⟨#[c]⟩) h := rfl
def getK (i : Int) (o : Option D1) (h : MH) (Q : KD) : Prop := match o with | some d => 0 ≤ i ∧ Q d h | none => False
theorem v_get {a : Addr} {y : D1} : getD1 (.ref a) y h Q = getO y h Q (h a) := rfl
theorem v_getO {xs : List D1} {y : D1} : getO y h Q (some (.lst xs)) = getL y h Q xs := rfl
theorem v_getOd {kvs : Kvs} {y : D1} : getO y h Q (some (.dic kvs)) = ixDic kvs y h Q := rfl
theorem v_getL {xs : List D1} {i : Int} : getL (.int i) h Q xs = getK i (atI xs i) h Q := rfl
theorem v_getK {i : Int} {d : D1} : getK i (some d) h Q = (0 ≤ i ∧ Q d h) := rfl
def setK (p : Addr) (d : D1) (xs : List D1) (o : Option Nat) (h : MH) (n : MH → Prop) : Prop := match o with | some j => n (up h p (.lst (xs.set j d))) | none => False
theorem v_set {a : Addr} {i d : D1} {n : MH → Prop} : setD (.ref a) i d h n = setO a i d h n (h a) := rfl
theorem v_setO {a : Addr} {i d : D1} {xs : List D1} {n : MH → Prop} : setO a i d h n (some (.lst xs)) = setL a i d h n xs := rfl
theorem v_setOd {a : Addr} {i d : D1} {kvs : Kvs} {n : MH → Prop} : setO a i d h n (some (.dic kvs)) = setDic a i d h n kvs := rfl
theorem v_setL {a : Addr} {i : Int} {d : D1} {xs : List D1} {n : MH → Prop} : setL a (.int i) d h n xs = setK a d xs (ixN xs.length i) h n := rfl
theorem v_setDic {a : Addr} {i d : D1} {kvs : Kvs} {n : MH → Prop} : setDic a i d h n kvs = (fit kvs i = true ∧ kvs.length < sizeLine ∧ n (up h a (.dic (dset kvs i d)))) := rfl
theorem v_setK {a : Addr} {j : Nat} {d : D1} {xs : List D1} {n : MH → Prop} : setK a d xs (some j) h n = n (up h a (.lst (xs.set j d))) := rfl
theorem v_on1 {r : D1 → MH → KD → Prop} {d : D1} : on1 r [d] h Q = r d h Q := rfl
theorem v_on2 {r : R1} {d e : D1} : on2 r [d, e] h Q = r d e h Q := rfl
theorem v_lenR {a : Addr} : lenD (.ref a) h Q = lenO h Q (h a) := rfl
theorem v_lenO {ds : List D1} : lenO h Q (some (.lst ds)) = Q (.int ds.length) h := rfl
theorem v_lenOd {kvs : Kvs} : lenO h Q (some (.dic kvs)) = Q (.int kvs.length) h := rfl
theorem v_lenT {ds : List D1} : lenD (.tup ds) h Q = Q (.int ds.length) h := rfl
theorem v_lenL {ds : List D1} : lenD (.rol ds) h Q = Q (.int ds.length) h := rfl
theorem v_lenS {z : Str} : lenD (.str z) h Q = Q (.int z.length) h := rfl
theorem v_seqK {k : List D1 → Prop} {ds : List D1} : seqK k (some ds) = k ds := rfl
theorem v_tuple {d : D1} : tupleD d h Q = seqK (fun ds => Q (.tup ds) h) (seqOf h d) := rfl
theorem v_list {d : D1} : listD d h Q = seqK (fun ds => ∀ p, h p = none → Q (.ref p) (up h p (.lst ds))) (seqOf h d) := rfl
theorem v_abs {i : Int} : absD (.int i) h Q = Q (.int (if i < 0 then -i else i)) h := rfl
theorem v_intI {i : Int} : intD (.int i) h Q = Q (.int i) h := rfl
theorem v_intB {b : Bool} : intD (.bool b) h Q = Q (.int (if b = true then 1 else 0)) h := rfl
theorem v_okL {a : Addr} : okL (.ref a) h = isLst (h a) := rfl
theorem v_isLst {xs : List D1} : isLst (some (.lst xs)) = True := rfl
theorem v_app {a : Addr} {d : D1} : appendD (.ref a) [d] h Q = lstK (fun xs => xs.length < sizeLine ∧ Q .none (up h a (.lst (xs ++ [d])))) (h a) := rfl
theorem v_lstK {k : List D1 → Prop} {xs : List D1} : lstK k (some (.lst xs)) = k xs := rfl
theorem v_slS {z : Str} {lo hi : Option Int} : slD (.str z) lo hi h Q = Q (.str (cutS z lo hi)) h := rfl
theorem v_slT {ds : List D1} {lo hi : Option Int} : slD (.tup ds) lo hi h Q = Q (.tup (cutD ds lo hi)) h := rfl
theorem v_join {a : Str} {d : D1} : joinD (.str a) d h Q = seqK (joinK a h Q) (seqOf h d) := rfl
theorem v_is {d : D1} : isD d .none h Q = Q (.bool (isNone d)) h := rfl
theorem v_isnot {d : D1} : nisD d .none h Q = Q (.bool (!isNone d)) h := rfl
theorem v_max {i j : Int} : max2D (.int i) (.int j) h Q = Q (.int (if j > i then j else i)) h := rfl
theorem v_min {i j : Int} : min2D (.int i) (.int j) h Q = Q (.int (if j < i then j else i)) h := rfl
theorem v_iSeq {t : E1} {R : List D1 → (MH → Prop) → MH → Prop} : iSeq t σ h R = t σ h fun d h1 => srcD d h1 R := rfl
theorem v_srcT {xs : List D1} {R : List D1 → (MH → Prop) → MH → Prop} : srcD (.tup xs) h R = R xs (fun _ => True) h := rfl
theorem v_srcL {xs : List D1} {R : List D1 → (MH → Prop) → MH → Prop} : srcD (.rol xs) h R = R xs (fun _ => True) h := rfl
theorem v_srcS {z : Str} {R : List D1 → (MH → Prop) → MH → Prop} : srcD (.str z) h R = R (signs z) (fun _ => True) h := rfl
theorem v_srcR {a : Addr} {R : List D1 → (MH → Prop) → MH → Prop} : srcD (.ref a) h R = srcO a h R (h a) := rfl
theorem v_srcO {a : Addr} {xs : List D1} {R : List D1 → (MH → Prop) → MH → Prop} : srcO a h R (some (.lst xs)) = R xs (stabO a xs) h := rfl
theorem v_iRg1 {t : A1} {R : List D1 → (MH → Prop) → MH → Prop} : iRg1 t σ h R = t σ h fun ds h1 => rg1 ds h1 R := rfl
theorem v_rg1 {j : Int} {R : List D1 → (MH → Prop) → MH → Prop} : rg1 [.int j] h R = ((-(2 ^ 62) ≤ j ∧ j < 2 ^ 62) ∧ R (rgD 0 j.toNat) (fun _ => True) h) := rfl
theorem v_truN {QB : Bool → MH → Prop} : truD .none h QB = QB false h := rfl
theorem v_truB {b : Bool} {QB : Bool → MH → Prop} : truD (.bool b) h QB = QB b h := rfl
theorem v_truI {i : Int} {QB : Bool → MH → Prop} : truD (.int i) h QB = QB (i != 0) h := rfl
theorem v_truS {z : Str} {QB : Bool → MH → Prop} : truD (.str z) h QB = QB (z.length != 0) h := rfl
theorem v_truR {a : Addr} {QB : Bool → MH → Prop} : truD (.ref a) h QB = truL h QB (seqO (h a)) := rfl
theorem v_truT {ds : List D1} {QB : Bool → MH → Prop} : truD (.tup ds) h QB = truL h QB (some ds) := rfl
theorem v_truRol {ds : List D1} {QB : Bool → MH → Prop} : truD (.rol ds) h QB = truL h QB (some ds) := rfl
theorem v_truL {ds : List D1} {QB : Bool → MH → Prop} : truL h QB (some ds) = QB (!ds.isEmpty) h := rfl
theorem e_dic0 : dDic0 σ h Q = ∀ p, h p = none → Q (.ref p) (up h p (.dic [])) := rfl
theorem e_disp {trs : List (E1 × E1)} : dDisp trs σ h Q = dPairs trs σ h fun ps h1 => ps.all (fun p => (scaK p.1).isSome) = true ∧ ps.length ≤ 15 ∧ ∀ p, h1 p = none → Q (.ref p) (up h1 p (.dic (dmerge [] ps))) := rfl
theorem e_pairs0 {QP : Kvs → MH → Prop} : dPairs [] σ h QP = QP [] h := rfl
theorem e_pairsS {tk tv : E1} {r : List (E1 × E1)} {QP : Kvs → MH → Prop} : dPairs ((tk, tv) :: r) σ h QP = tk σ h fun x h1 => tv σ h1 fun y h2 => dPairs r σ h2 fun ps h3 => QP ((x, y) :: ps) h3 := rfl
theorem e_chain {r r' : R1} {ta tb tc : E1} : dChain r r' ta tb tc σ h Q = ta σ h fun x h1 => tb σ h1 fun y h2 => r x y h2 (asB fun k h3 => if k = true then tc σ h3 fun z h4 => r' y z h4 Q else Q (.bool false) h3) := rfl
theorem v_bits {i : Int} : bitsD (.int i) h Q = Q (.int (Builtin.Int.intBits i : Nat)) h := rfl
theorem v_iRg3 {t : A1} {R : List D1 → (MH → Prop) → MH → Prop} : iRg3 t σ h R = t σ h fun ds h1 => rg3 ds h1 R := rfl
theorem v_rg3 {i j c : Int} {R : List D1 → (MH → Prop) → MH → Prop} : rg3 [.int i, .int j, .int c] h R = ∃ n, RgC i j c n ∧ R (rgC i c n) (fun _ => True) h := rfl
theorem v_iRg2 {t : A1} {R : List D1 → (MH → Prop) → MH → Prop} : iRg2 t σ h R = t σ h fun ds h1 => rg2 ds h1 R := rfl
theorem v_rg2 {i j : Int} {R : List D1 → (MH → Prop) → MH → Prop} : rg2 [.int i, .int j] h R = ((-(2 ^ 62) ≤ i ∧ i < 2 ^ 62 ∧ -(2 ^ 62) ≤ j ∧ j < 2 ^ 62) ∧ R (rgD i (j - i).toNat) (fun _ => True) h) := rfl
theorem v_iEn {t : A1} {R : List D1 → (MH → Prop) → MH → Prop} : iEn t σ h R = t σ h fun ds h1 => enK ds h1 R := rfl
theorem v_enT {xs : List D1} {R : List D1 → (MH → Prop) → MH → Prop} : enK [.tup xs] h R = R (enD 0 xs) (fun _ => True) h := rfl
theorem v_enR {a : Addr} {R : List D1 → (MH → Prop) → MH → Prop} : enK [.ref a] h R = enO a h R (h a) := rfl
theorem v_enO {a : Addr} {xs : List D1} {R : List D1 → (MH → Prop) → MH → Prop} : enO a h R (some (.lst xs)) = R (enD 0 xs) (stabO a xs) h := rfl
theorem v_iZp {t : A1} {R : List D1 → (MH → Prop) → MH → Prop} : iZp t σ h R = t σ h fun ds h1 => zpK ds h1 R := rfl
theorem v_zpT {xs ys : List D1} {R : List D1 → (MH → Prop) → MH → Prop} : zpK [.tup xs, .tup ys] h R = R (zpD xs ys) (fun _ => True) h := rfl
theorem v_zpR {a b : Addr} {R : List D1 → (MH → Prop) → MH → Prop} : zpK [.ref a, .ref b] h R = zpO a b h R (h a) (h b) := rfl
theorem v_zpO {a b : Addr} {xs ys : List D1} {R : List D1 → (MH → Prop) → MH → Prop} : zpO a b h R (some (.lst xs)) (some (.lst ys)) = R (zpD xs ys) (fun h => stabO a xs h ∧ stabO b ys h) h := rfl
theorem v_repr {x : D1} : reprD x h Q = (pure? 60 x = true ∧ (pd x).showable = true ∧ (pd x).shown.length ≤ sizeLine ∧ Q (.str (pd x).shown) h) := rfl
theorem v_strI {i : Int} : strD (.int i) h Q = (i.natAbs.log2 < 1920 ∧ Q (.str (Str.ofString (toString i))) h) := rfl
theorem v_strS {z : Str} : strD (.str z) h Q = Q (.str z) h := rfl
theorem v_addR {p q : Addr} : addD (.ref p) (.ref q) h Q = ∃ a b, h p = some (.lst a) ∧ h q = some (.lst b) ∧ a.length + b.length ≤ sizeLine ∧ ∀ l, h l = none → Q (.ref l) (up h l (.lst (a ++ b))) := rfl
theorem v_and {i j : Int} : andD (.int i) (.int j) h Q = Q (.int (Builtin.bitAnd i j)) h := rfl
theorem v_slR {a : Addr} {lo hi : Option Int} : slD (.ref a) lo hi h Q = slL h lo hi Q (h a) := rfl
theorem v_slL {ds : List D1} {lo hi : Option Int} : slL h lo hi Q (some (.lst ds)) = ∀ l, h l = none → Q (.ref l) (up h l (.lst (cutD ds lo hi))) := rfl
theorem v_ltS {i j : Str} : ltD (.str i) (.str j) h Q = Q (.bool (ltS i j)) h := rfl
theorem v_isi {x : D1} {n : String} : isiD x (.ty n) h Q = isiK n (fun b => Q (.bool b) h) (tyN h x) := rfl
theorem v_srtT {ds : List D1} : sortedD (.tup ds) h Q = sortK ds h Q := rfl
theorem v_srtR {a : Addr} : sortedD (.ref a) h Q = sortO h Q (h a) := rfl
theorem v_srtO {ds : List D1} : sortO h Q (some (.lst ds)) = sortK ds h Q := rfl
theorem v_srtD {kvs : Kvs} : sortO h Q (some (.dic kvs)) = (kvs.all (fun p => (scaK p.1).isSome) = true ∧ sortK (kvs.map (·.1)) h Q) := rfl
theorem v_revR {a : Addr} : revD (.ref a) h Q = lstK (fun xs => ∀ p, h p = none → Q (.ref p) (up h p (.lst xs.reverse))) (h a) := rfl
theorem e_split {to te : E1} : dSplit to te σ h Q = to σ h fun x h1 => (∃ z, x = .str z) ∧ te σ h1 fun y h2 => splitD x y h2 Q := rfl
theorem v_split {a b : Str} : splitD (.str a) (.str b) h Q = ((b.length == 0) = false ∧ a.length + 2 ≤ sizeLine ∧ newStrs (Txt.split a b) h Q) := rfl
theorem v_words {a : Str} : wordsD (.str a) h Q = (a.length + 2 ≤ sizeLine ∧ newStrs (Txt.words a) h Q) := rfl
theorem v_index {a : Addr} {y : D1} : indexD (.ref a) [y] h Q = lstK (fun xs => pure? 60 y = true ∧ pures? 60 xs = true ∧ ∃ (j : Nat) (z : D1), xs[j]? = some z ∧ eqF z y = true ∧ (∀ (m : Nat) (z' : D1), m < j → xs[m]? = some z' → eqF z' y = false) ∧ Q (.int (j : Nat)) h) (h a) := rfl
theorem v_iZs {t : A1} {R : List D1 → (MH → Prop) → MH → Prop} : iZs t σ h R = t σ h fun ds h1 => zsK ds h1 R := rfl
theorem v_zsT {xs : List D1} {z : Str} {R : List D1 → (MH → Prop) → MH → Prop} : zsK [.tup xs, .str z] h R = R (zpD xs (signs z)) (fun _ => True) h := rfl
theorem v_revT {ds : List D1} : revD (.tup ds) h Q = Q (.tup ds.reverse) h := rfl
theorem v_isB {a b : Bool} : isD (.bool a) (.bool b) h Q = Q (.bool (decide (a = b))) h := rfl
theorem v_mulR {p : Addr} {k : Int} : mulD (.ref p) (.int k) h Q = ∃ a, h p = some (.lst a) ∧ (-(2 ^ 63) ≤ k ∧ k < 2 ^ 63) ∧ a.length * k.toNat ≤ sizeLine ∧ ∀ l, h l = none → Q (.ref l) (up h l (.lst (List.replicate k.toNat a).flatten)) := rfl
theorem v_all {p : Addr} {ds : List D1} {bs : List Bool} (e : h p = some (.lst ds)) (f : blsOf ds = some bs) (q : Q (.bool (bs.all id)) h) : allD (.ref p) h Q := by
  unfold allD blsK
  show seqK _ (seqO (h p))
  rw [e]
  exact ⟨bs, f, q⟩
theorem v_any {p : Addr} {ds : List D1} {bs : List Bool} (e : h p = some (.lst ds)) (f : blsOf ds = some bs) (q : Q (.bool (bs.any id)) h) : anyD (.ref p) h Q := by
  unfold anyD blsK
  show seqK _ (seqO (h p))
  rw [e]
  exact ⟨bs, f, q⟩
end
end DL
namespace DL
open PySem PySem.Spec PyProof.Rows L2
/-! ### the state of the draws -/
/-- the five places of a draw's list: the cells' list at c, a place that is no number below 0, two numbers and a 3 -/
def DrO (c : Addr) (o : MO) : Prop := ∃ p acc r : Int, 0 ≤ p ∧ o = .lst [.ref c, .int p, .int acc, .int r, .int 3]
structure Dr (a c : Addr) (cs : List Int) (h : MH) : Prop where
  st : ∃ o, h a = some o ∧ DrO c o
  ce : h c = some (.lst (cs.map D.int))
theorem Dr.ne {a c : Addr} {cs : List Int} {h : MH} (d : Dr a c cs h) : c ≠ a := by
  obtain ⟨o, e, p, acc, r, _, rfl⟩ := d.st
  intro z
  have f := d.ce
  rw [z, e] at f
  cases cs with
  | nil => cases f
  | cons x xs => cases f
theorem Dr.up {a c : Addr} {cs : List Int} {h : MH} (d : Dr a c cs h) {o : MO} (k : DrO c o) : Dr a c cs (up h a o) :=
  ⟨⟨o, up_same, k⟩, by rw [up_ne d.ne]; exact d.ce⟩
theorem Dr.new {a c : Addr} {cs : List Int} {h : MH} (d : Dr a c cs h) {l : Addr} (n : h l = none) {o : MO} : Dr a c cs (DL.up h l o) := by
  obtain ⟨u, e, k⟩ := d.st
  exact ⟨⟨u, by rw [up_ne (fun z => by rw [← z, e] at n; cases n)]; exact e, k⟩, by rw [up_ne (fun z => by rw [← z, d.ce] at n; cases n)]; exact d.ce⟩
theorem Dr.put {a c : Addr} {cs : List Int} {h : MH} (d : Dr a c cs h) {l : Addr} (n1 : a ≠ l) (n2 : c ≠ l) {o : MO} : Dr a c cs (DL.up h l o) := by
  obtain ⟨u, e, k⟩ := d.st
  exact ⟨⟨u, by rw [up_ne n1]; exact e, k⟩, by rw [up_ne n2]; exact d.ce⟩
def sp__law_draw : P1 := fun ds h Q => ∃ a c cs many, ds = [.ref a, .int many] ∧ 0 < many ∧ many < 2 ^ 64 ∧ Dr a c cs h ∧ ∀ r o, 0 ≤ r → r < many → DrO c o → Q (.int r) (up h a o)
def sp__law_begin : P1 := fun ds h Q => ∃ cs : List Int, ds = [.rol (cs.map D.int)] ∧ cs.length ≤ 63 ∧ ∀ a c o, h a = none → h c = none → a ≠ c → DrO c o → Q (.ref a) (up (up h c (.lst (cs.map D.int))) a o)
theorem divOk_of {j : Int} (h : 0 < j) (h2 : j < 2 ^ 64) : divOk j := by
  exact wide_div (i := 0) (b := 64) h (by omega) (by decide) (by decide)
theorem up_id {h : MH} {a : Addr} {o : MO} (e : h a = some o) : up h a o = h := by
  funext b; unfold up; split
  · rename_i z; rw [z, e]
  · rfl
/-- a row of draws -/
theorem lcT_draws {h : MH} {a c : Addr} {cs : List Int} (d : Dr a c cs h) (P : D → Prop) {xs : List D} {g : G1} {te : E1} {vs : List Nat} {σ : Sl} {Q : KD} (hz : xs.length ≤ sizeLine)
    (he : ∀ (i : Nat) (x : D) (o : MO) (Q' : KD), xs[i]? = some x → DrO c o → (∀ y o', P y → DrO c o' → Q' y (up h a o')) → g x (wipeD σ vs) (up h a o) fun σ2 h2 => te σ2 h2 Q')
    (fin : ∀ (acc : List D) (o : MO) (p : Addr), acc.length = xs.length → (∀ y ∈ acc, P y) → DrO c o → up h a o p = none → Q (.ref p) (up (up h a o) p (.lst acc))) : lcT xs (fun _ => True) g dYes te vs σ Q h := by
  obtain ⟨o0, e0, k0⟩ := d.st
  refine ⟨hz, fun i acc hh => ∃ o, hh = up h a o ∧ DrO c o ∧ acc.length = i ∧ ∀ y ∈ acc, P y, ⟨h, le.refl, o0, (up_id e0).symm, k0, rfl, by simp⟩, fun _ _ _ _ => trivial, ?_, ?_⟩
  · rintro i x acc hh hx ⟨o, rfl, k, hl, hP⟩
    refine he i x o (fun y h4 => ∃ h5, le h5 h4 ∧ ∃ o, h5 = up h a o ∧ DrO c o ∧ (acc ++ [y]).length = i + 1 ∧ ∀ z ∈ acc ++ [y], P z) hx k fun y o' hy k' => ⟨_, le.refl, o', rfl, k', by rw [List.length_append, hl]; rfl, fun z hz => ?_⟩
    rcases List.mem_append.mp hz with hz | hz
    · exact hP z hz
    · rw [List.mem_singleton.mp hz]; exact hy
  · rintro acc hh ⟨o, rfl, k, hl, hP⟩ p np
    exact fin acc o p hl hP k np
/-! ### pick -/
def rowOf (h : MH) : D → Option (List D)
  | .str z => some (signs z)
  | .tup ds => some ds
  | .rol ds => some ds
  | .ref l => seqO (h l)
  | _ => none
theorem signs_len (z : Str) : (signs z).length = z.length := by unfold signs; rw [List.length_map]; exact Array.length_toList
theorem seqO_some {o : Option MO} {xs : List D} (e : seqO o = some xs) : o = some (.lst xs) := by
  cases o with
  | none => cases e
  | some u => cases u <;> first | (cases e; rfl) | (cases e; done)
theorem len_row {h : MH} {row : D} {xs : List D} {Q : KD} (e : rowOf h row = some xs) (q : Q (.int xs.length) h) : lenD row h Q := by
  cases row <;> try (cases e; done)
  case str z => cases e; rw [signs_len] at q; exact q
  case tup ds => cases e; exact q
  case rol ds => cases e; exact q
  case ref l =>
    have e : seqO (h l) = some xs := e
    rw [v_lenR, seqO_some e]; exact q
theorem ix_row {h : MH} {row : D} {xs : List D} {Q : KD} {k : Nat} {x : D} (e : rowOf h row = some xs) (hx : xs[k]? = some x) (q : Q x h) : ixD row (.int k) h Q := by
  cases row <;> try (cases e; done)
  case str z =>
    cases e
    unfold signs at hx
    rw [List.getElem?_map] at hx
    obtain ⟨c, hc, rfl⟩ := Option.map_eq_some_iff.mp hx
    rw [v_ixS, v_ixStr, atI_of rfl hc]; exact q
  case tup ds => cases e; rw [v_ixT, v_ixSeq, atI_of rfl hx]; exact q
  case rol ds => cases e; rw [v_ixL, v_ixSeq, atI_of rfl hx]; exact q
  case ref l =>
    have e : seqO (h l) = some xs := e
    rw [v_ixR, seqO_some e, v_ixO, v_ixSeq, atI_of rfl hx]; exact q
def sp__law_pick : P1 := fun ds h Q => ∃ a c cs row xs, ds = [.ref a, row] ∧ Dr a c cs h ∧ rowOf h row = some xs ∧ row ≠ .ref a ∧ xs ≠ [] ∧ xs.length < 2 ^ 64 ∧ ∀ x o, x ∈ xs → DrO c o → Q x (up h a o)
end DL
namespace DL
open PySem PySem.Spec PyProof.Rows L2
local macro_rules | `(tactic| walk_at "ev") => `(tactic| try simp only [e_seq, e_next, e_brk, e_cnt, e_drop, e_ret, e_retN, e_ifS, e_asg, e_gN, e_gSb, e_gTp, e_gCn, e_gNl, e_var, e_varK, e_nth0, e_nthS, e_put0, e_putS, e_c, e_op, e_un, e_call, e_nil, e_cons, e_tup, e_lst, e_test, e_asB, e_tru, e_andT, e_orT, e_notT, e_andV, e_orV, e_notV, e_if, e_aug, e_augS, e_sl, e_part, e_partK, e_noPart, e_bm0, e_bm, e_join, e_yes, e_wipe0, e_wipeS, e_lc, e_for, v_add, v_addS, v_addT, v_iadd, v_sub, v_mul, v_fdiv, v_mod, v_pow, v_shl, v_shr, v_neg, v_lt, v_le, v_gt, v_ge, v_eqI, v_neI, v_eqS, v_neS, v_inS, v_ninS, v_inT, v_ninT, v_inR, v_ninR, v_inSeq, v_seqO, v_seqR, v_seqT, v_seqL, v_ixR, v_ixT, v_ixL, v_ixS, v_atK, v_atSK, v_get, v_getL, v_getK, v_set, v_setL, v_setK, v_on1, v_on2, v_lenR, v_lenT, v_lenL, v_lenS, v_seqK, v_tuple, v_list, v_abs, v_intI, v_intB, v_okL, v_isLst, v_app, v_lstK, v_slS, v_slT, v_join, v_is, v_isnot, v_max, v_min, v_iSeq, v_srcT, v_srcL, v_srcS, v_srcR, v_srcO, v_iRg1, v_rg1, v_truN, v_truB, v_truI, v_truS, v_truR, v_truT, v_truRol, v_truL, v_inRol, v_ninRol, v_inO, v_inOd, v_inDic, v_ixO, v_ixOd, v_ixSeq, v_ixDic, v_dgetK, v_ixStr, v_getO, v_getOd, v_setO, v_setOd, v_setDic, v_lenO, v_lenOd, e_dic0, e_disp, e_pairs0, e_pairsS, e_chain, v_bits, v_iRg3, v_rg3, v_iRg2, v_rg2, v_iEn, v_enT, v_enR, v_enO, v_iZp, v_zpT, v_zpR, v_zpO, v_repr, v_strI, v_strS, v_addR, v_and, v_slR, v_slL, v_ltS, v_srtT, v_srtR, v_srtO, v_srtD, v_revR, v_revT, v_isB, v_iZs, v_zsT, e_split, v_split, v_words, v_index])
theorem nef {h : MH} {a b : Addr} {u : MO} (e : h b = some u) (n : h a = none) : b ≠ a := fun z => by rw [z, n] at e; cases e
theorem v_pop {h : MH} {Q : KD} {a : Addr} {i : Int} : popD (.ref a) [.int i] h Q = lstK (fun xs => ∃ k y, ixN xs.length i = some k ∧ xs[k]? = some y ∧ (-(2 ^ 63) ≤ i ∧ i < 2 ^ 63) ∧ Q y (up h a (.lst (xs.eraseIdx k)))) (h a) := rfl
theorem erase_perm {α : Type} : ∀ (l : List α) (j : Nat) (h : j < l.length), (l[j] :: l.eraseIdx j).Perm l
  | x :: r, 0, _ => List.Perm.refl _
  | x :: r, j + 1, h => by
    show (r[j]'(Nat.lt_of_succ_lt_succ h) :: x :: r.eraseIdx j).Perm (x :: r)
    exact (List.Perm.swap x _ _).trans ((erase_perm r j (Nat.lt_of_succ_lt_succ h)).cons x)
theorem divOk_2 : divOk 2 := divOk_of (by decide) (by decide)
theorem divOk_16 : divOk 16 := divOk_of (by decide) (by decide)
theorem mulOk_l {i j : Int} (h : -(2 ^ 64) < i ∧ i < 2 ^ 64) : mulOk i j := .inl h
theorem mulOk_r {i j : Int} (h : -(2 ^ 64) < j ∧ j < 2 ^ 64) : mulOk i j := .inr h
theorem isi_eval {h : MH} {Q : KD} {x : D} {t n : String} {b : Bool} (e : tyN h x = some t) (k : kitB t n = some b) : isiD x (.ty n) h Q = Q (.bool b) h := by
  show isiK n _ (tyN h x) = _
  rw [e]
  show kitK _ (kitB t n) = _
  rw [k]; rfl
/-- the type's name of what is pure -/
def tyP : D → String
  | .none => "NoneType"
  | .bool _ => "bool"
  | .int _ => "int"
  | .str _ => "str"
  | .tup _ => "tuple"
  | .rol _ => "list"
  | .ref _ => ""
  | .ty _ => ""
theorem ty_pure {n : Nat} {x : D} (p : pure? n x = true) (h : MH) : tyN h x = some (tyP x) := by
  cases x <;> first | rfl | (simp [pure?] at p)
theorem eqD_pure {x y : D} {h : MH} {Q : KD} (px : pure? 60 x = true) (py : pure? 60 y = true) : eqD x y h Q = Q (.bool (eqF x y)) h := by
  have v : ∀ {z : D}, pure? 60 z = true → view h z = some (pd z) := fun {z} p => by
    have : viewP z = some (pd z) := by unfold viewP; rw [if_pos p]
    cases z <;> first | exact this | (simp [pure?] at p)
  show eqvO (view h x) (view h y) _ = _
  rw [v px, v py]; rfl
theorem neD_pure {x y : D} {h : MH} {Q : KD} (px : pure? 60 x = true) (py : pure? 60 y = true) : neD x y h Q = Q (.bool (!eqF x y)) h := by
  have v : ∀ {z : D}, pure? 60 z = true → view h z = some (pd z) := fun {z} p => by
    have : viewP z = some (pd z) := by unfold viewP; rw [if_pos p]
    cases z <;> first | exact this | (simp [pure?] at p)
  show eqvO (view h x) (view h y) _ = _
  rw [v px, v py]; rfl
theorem v_eqIS {i : Int} {z : Str} {h : MH} {Q : KD} : eqD (.int i) (.str z) h Q = Q (.bool false) h := rfl
theorem v_neIS {i : Int} {z : Str} {h : MH} {Q : KD} : neD (.int i) (.str z) h Q = Q (.bool true) h := rfl
theorem v_eqB {a b : Bool} {h : MH} {Q : KD} : eqD (.bool a) (.bool b) h Q = Q (.bool (a == b)) h := rfl
theorem v_neB {a b : Bool} {h : MH} {Q : KD} : neD (.bool a) (.bool b) h Q = Q (.bool (!(a == b))) h := rfl
mutual
theorem pure_le : ∀ {n m : Nat}, n ≤ m → ∀ x : D, pure? n x = true → pure? m x = true
  | _, _, _, .none, _ => by simp [pure?]
  | _, _, _, .bool _, _ => by simp [pure?]
  | _, _, _, .int _, _ => by simp [pure?]
  | _, _, _, .str _, _ => by simp [pure?]
  | 0, _, _, .tup ds, p => by simp [pure?] at p
  | n + 1, 0, h, .tup ds, p => by omega
  | n + 1, m + 1, h, .tup ds, p => by
    have p' : pures? n ds = true := by simpa [pure?] using p
    simp only [pure?]; exact pures_le (by omega) ds p'
  | 0, _, _, .rol ds, p => by simp [pure?] at p
  | n + 1, 0, h, .rol ds, p => by omega
  | n + 1, m + 1, h, .rol ds, p => by
    have p' : pures? n ds = true := by simpa [pure?] using p
    simp only [pure?]; exact pures_le (by omega) ds p'
  | _, _, _, .ref _, p => by simp [pure?] at p
  | _, _, _, .ty _, p => by simp [pure?] at p
theorem pures_le : ∀ {n m : Nat}, n ≤ m → ∀ ds : List D, pures? n ds = true → pures? m ds = true
  | _, _, _, [], _ => by simp [pures?]
  | n, m, h, d :: ds, p => by
    have p' : pure? n d = true ∧ pures? n ds = true := by simpa [pures?] using p
    simp only [pures?, pure_le h d p'.1, pures_le h ds p'.2]; rfl
end
theorem pures_mem {n : Nat} {ds : List D} (p : pures? n ds = true) {x : D} (hx : x ∈ ds) : pure? n x = true := by
  rw [pures_all, List.all_eq_true] at p
  exact p x hx
/-! comprehensions over rows of one kind -/
section
variable {α : Type} {h : MH} {xs : List D} {stab : MH → Prop} {g : G1} {te : E1} {tt : T1} {vs : List Nat} {σ : Sl} {Q : KD}
theorem lcT_t (ys : List α) (e f : α → D) (ex : xs = ys.map e) (hz : ys.length ≤ sizeLine) (hs : stab h)
    (he : ∀ y ∈ ys, ∀ Q' : KD, (∀ h', le h h' → Q' (f y) h') → g (e y) (wipeD σ vs) h fun σ2 h2 => te σ2 h2 Q') (fin : ∀ p, h p = none → Q (.ref p) (up h p (.lst (ys.map f)))) : lcT xs stab g dYes te vs σ Q h := by
  subst ex
  refine ⟨by rw [List.length_map]; exact hz, fun i a hh => hh = h ∧ a = (ys.take i).map f, ⟨h, le.refl, rfl, rfl⟩, fun i a hh e => by rw [e.1]; exact hs, ?_, ?_⟩
  · rintro i x a hh hx ⟨rfl, rfl⟩
    rw [List.getElem?_map] at hx
    obtain ⟨y, hy, rfl⟩ := Option.map_eq_some_iff.mp hx
    obtain ⟨hi, ey⟩ := List.getElem?_eq_some_iff.mp hy
    refine he y (List.mem_of_getElem? hy) (fun z h4 => ∃ h5, le h5 h4 ∧ h5 = hh ∧ (ys.take i).map f ++ [z] = (ys.take (i + 1)).map f) fun h' l => ⟨hh, l, rfl, ?_⟩
    rw [List.take_succ_eq_append_getElem hi, List.map_append, ey]; rfl
  · rintro a hh ⟨rfl, rfl⟩ p np
    rw [List.length_map, List.take_length]
    exact fin p np
theorem lcT_tf (ys : List α) (e f : α → D) (P : α → Bool) (ex : xs = ys.map e) (hz : ys.length ≤ sizeLine) (hs : stab h)
    (he : ∀ y ∈ ys, ∀ (Q' : KD) (R : MH → Prop), (P y = true → ∀ h', le h h' → Q' (f y) h') → (P y = false → ∀ h', le h h' → R h') → g (e y) (wipeD σ vs) h fun σ2 h2 => tt σ2 h2 fun b h3 => if b = true then te σ2 h3 Q' else R h3)
    (fin : ∀ p, h p = none → Q (.ref p) (up h p (.lst ((ys.filter P).map f)))) : lcT xs stab g tt te vs σ Q h := by
  subst ex
  refine ⟨by rw [List.length_map]; exact hz, fun i a hh => hh = h ∧ a = ((ys.take i).filter P).map f, ⟨h, le.refl, rfl, rfl⟩, fun i a hh e => by rw [e.1]; exact hs, ?_, ?_⟩
  · rintro i x a hh hx ⟨rfl, rfl⟩
    rw [List.getElem?_map] at hx
    obtain ⟨y, hy, rfl⟩ := Option.map_eq_some_iff.mp hx
    obtain ⟨hi, ey⟩ := List.getElem?_eq_some_iff.mp hy
    refine he y (List.mem_of_getElem? hy) (fun z h4 => ∃ h5, le h5 h4 ∧ h5 = hh ∧ ((ys.take i).filter P).map f ++ [z] = ((ys.take (i + 1)).filter P).map f) (fun h4 => ∃ h5, le h5 h4 ∧ h5 = hh ∧ ((ys.take i).filter P).map f = ((ys.take (i + 1)).filter P).map f) (fun k h' l => ⟨hh, l, rfl, ?_⟩) fun k h' l => ⟨hh, l, rfl, ?_⟩
    · rw [List.take_succ_eq_append_getElem hi, List.filter_append, List.map_append, ey, List.filter_cons, if_pos k]; rfl
    · rw [List.take_succ_eq_append_getElem hi, List.filter_append, List.map_append, ey, List.filter_cons, if_neg (by rw [k]; exact Bool.false_ne_true), List.filter_nil, List.map_nil, List.append_nil]
  · rintro a hh ⟨rfl, rfl⟩ p np
    rw [List.length_map, List.take_length]
    exact fin p np
end
theorem rgD_0 (n : Nat) : rgD 0 n = (List.range n).map fun (i : Nat) => D.int i := by
  unfold rgD
  exact List.map_congr_left fun i _ => by rw [Int.zero_add]
theorem le_up {h : MH} {p : Addr} {o : MO} (n : h p = none) : le h (up h p o) := le.up n
theorem lh_le {Q : KD} {d : D} {h h' : MH} (l : le h h') (q : Q d h) : Lh Q d h' := ⟨h, l, q⟩
theorem all_bools {h : MH} {Q : KD} {p : Addr} {bs : List Bool} (q : Q (.bool (bs.all id)) (up h p (.lst (bs.map D.bool)))) : allD (.ref p) (up h p (.lst (bs.map D.bool))) Q := v_all up_same (blsOf_map bs) q
theorem pures_of {n : Nat} {ds : List D} (h : ∀ x ∈ ds, pure? n x = true) : pures? n ds = true := by
  rw [pures_all, List.all_eq_true]; exact h
theorem bnd62 {N : Nat} (h : N ≤ 1048576) : -(2 ^ 62) ≤ (N : Int) ∧ (N : Int) < 2 ^ 62 := by omega
theorem cut_to {α : Type} {f : α → D} {l : List α} {k : Nat} (h : k ≤ l.length) : cutD (l.map f) none (some (k : Int)) = (l.take k).map f := by
  unfold cutD
  rw [HT.sIx_nat, HT.sIx_none, List.length_map, Nat.min_eq_left h, List.drop_zero, Nat.sub_zero, List.map_take]
theorem cut_from {α : Type} {f : α → D} {l : List α} {k : Nat} (h : k ≤ l.length) : cutD (l.map f) (some (k : Int)) none = (l.drop k).map f := by
  unfold cutD
  rw [HT.sIx_nat, HT.sIx_none, List.length_map, Nat.min_eq_left h, ← List.map_drop, List.take_of_length_le (by rw [List.length_map, List.length_drop]; exact Nat.le_refl _)]
theorem up4 {h : MH} {a b : Addr} (n : a ≠ b) {x y z w : MO} : up (up (up (up h a x) b y) a z) b w = up (up h a z) b w := by
  funext c; unfold up; by_cases p : c = b <;> by_cases q : c = a <;> simp_all
theorem up3 {h : MH} {a b : Addr} (n : a ≠ b) {x y z : MO} : up (up (up h a x) b y) a z = up (up h a z) b y := by
  funext c; unfold up; by_cases p : c = b <;> by_cases q : c = a <;> simp_all
theorem sl_lt {n : Nat} (h : n ≤ 1000000) : n < sizeLine := Nat.lt_of_le_of_lt h (by decide)
theorem rg_len (n : Nat) : (rgD 0 ((n : Int)).toNat).length = n := by rw [Int.toNat_natCast, rgD_0, List.length_map, List.length_range]
theorem rg_at {n i : Nat} {x : D} (h : (rgD 0 ((n : Int)).toNat)[i]? = some x) : i < n ∧ x = .int (i : Nat) := by
  rw [Int.toNat_natCast, rgD_0, List.getElem?_map] at h
  obtain ⟨y, hy, rfl⟩ := Option.map_eq_some_iff.mp h
  obtain ⟨hl, e⟩ := List.getElem?_eq_some_iff.mp hy
  rw [List.length_range] at hl
  rw [List.getElem_range] at e
  subst e
  exact ⟨hl, rfl⟩
theorem cut_k {l : List D} {k : Nat} : cutD l none (some (k : Int)) = l.take k := by
  unfold cutD
  rw [HT.sIx_nat, HT.sIx_none, List.drop_zero, Nat.sub_zero]
  by_cases h : k ≤ l.length
  · rw [Nat.min_eq_left h]
  · rw [Nat.min_eq_right (by omega), List.take_length, List.take_of_length_le (by omega)]
/-! what draws and new things leave -/
structure Ext (h : MH) (a : Addr) (o : MO) (H : MH) : Prop where
  le_ : le (up h a o) H
  at_ : H a = some o
section
variable {h H : MH} {a l c : Addr} {o o' x : MO} {cs : List Int}
theorem Ext.start (e : h a = some o) : Ext h a o h := ⟨by rw [up_id e]; exact le.refl, e⟩
theorem Ext.draw (E : Ext h a o H) : Ext h a o' (up H a o') := ⟨fun y u hu => by
  by_cases z : y = a
  · subst z; rw [up_same] at hu ⊢; exact hu
  · rw [up_ne z] at hu ⊢; exact E.le_ y u (by rw [up_ne z]; exact hu), up_same⟩
theorem Ext.ne (E : Ext h a o H) (n : H l = none) : a ≠ l := nef E.at_ n
theorem Ext.new (E : Ext h a o H) (n : H l = none) : Ext h a o (up H l x) := ⟨E.le_.trans (le.up n), by rw [up_ne (E.ne n)]; exact E.at_⟩
theorem Ext.grow {H' : MH} (E : Ext h a o H) (w : le H H') : Ext h a o H' := ⟨E.le_.trans w, w _ _ E.at_⟩
theorem Ext.fresh (E : Ext h a o H) (n : H l = none) : h l = none := by
  cases z : h l with
  | none => rfl
  | some u =>
    have := E.le_ l u (by rw [up_ne (E.ne n).symm]; exact z)
    rw [n] at this; cases this
theorem Ext.get (E : Ext h a o H) {y : Addr} {u : MO} (e : h y = some u) (n : y ≠ a) : H y = some u := E.le_ y u (by rw [up_ne n]; exact e)
theorem Ext.dr (E : Ext h a o H) (d : Dr a c cs h) (k : DrO c o) : Dr a c cs H := ⟨⟨o, E.at_, k⟩, E.get d.ce d.ne⟩
theorem Ext.fin (E : Ext h a o H) : le (up (up h a o) l x) (up H l x) := le.up2 E.le_
end
theorem nats_of {K : Nat} : ∀ {acc : List D}, (∀ y ∈ acc, ∃ k : Nat, k < K ∧ y = .int k) → ∃ row : List Nat, acc = (row.map fun (x : Nat) => D.int x) ∧ (∀ x ∈ row, x < K) ∧ row.length = acc.length
  | [], _ => ⟨[], rfl, by simp, rfl⟩
  | y :: r, h => by
    obtain ⟨k, hk, rfl⟩ := h y (by simp)
    obtain ⟨row, e, hr, hl⟩ := nats_of (acc := r) fun z hz => h z (by simp [hz])
    refine ⟨k :: row, by rw [e]; rfl, fun x hx => ?_, by rw [List.length_cons, List.length_cons, hl]⟩
    rcases List.mem_cons.mp hx with rfl | hx
    · exact hk
    · exact hr x hx
theorem lcT_any {α : Type} {h : MH} {xs : List D} {stab : MH → Prop} {g : G1} {te : E1} {vs : List Nat} {σ : Sl} {Q : KD} (P : D → Prop) (ys : List α) (e : α → D) (ex : xs = ys.map e) (hz : ys.length ≤ sizeLine) (hs : stab h)
    (he : ∀ y ∈ ys, ∀ Q' : KD, (∀ z h', P z → le h h' → Q' z h') → g (e y) (wipeD σ vs) h fun σ2 h2 => te σ2 h2 Q') (fin : ∀ acc p, acc.length = ys.length → (∀ z ∈ acc, P z) → h p = none → Q (.ref p) (up h p (.lst acc))) : lcT xs stab g dYes te vs σ Q h := by
  subst ex
  refine ⟨by rw [List.length_map]; exact hz, fun i a hh => hh = h ∧ a.length = i ∧ ∀ z ∈ a, P z, ⟨h, le.refl, rfl, rfl, by simp⟩, fun i a hh e => by rw [e.1]; exact hs, ?_, ?_⟩
  · rintro i x a hh hx ⟨rfl, rfl, hp⟩
    rw [List.getElem?_map] at hx
    obtain ⟨y, hy, rfl⟩ := Option.map_eq_some_iff.mp hx
    refine he y (List.mem_of_getElem? hy) (fun z h4 => ∃ h5, le h5 h4 ∧ h5 = hh ∧ (a ++ [z]).length = a.length + 1 ∧ ∀ w ∈ a ++ [z], P w) fun z h' pz l => ⟨hh, l, rfl, by rw [List.length_append]; rfl, fun w hw => ?_⟩
    rcases List.mem_append.mp hw with hw | hw
    · exact hp w hw
    · rw [List.mem_singleton.mp hw]; exact pz
  · rintro a hh ⟨rfl, hl, hp⟩ p np
    rw [List.length_map] at hl
    exact fin a p hl hp np
theorem v_sum {p : Addr} {h : MH} {Q : KD} {is : List Int} (e : h p = some (.lst (is.map D.int))) (q : Q (.int is.sum) h) : sumD (.ref p) h Q := by
  show seqK _ (seqO (h p))
  rw [e]
  exact ⟨is, intsOf_map is, q⟩
theorem sum_le : ∀ (ws : List Int) (m : Int), 0 ≤ m → (∀ w ∈ ws, 0 ≤ w ∧ w ≤ m) → 0 ≤ ws.sum ∧ ws.sum ≤ m * ws.length
  | [], m, _, _ => by simp
  | w :: r, m, hm, h => by
    obtain ⟨a, b⟩ := sum_le r m hm fun x hx => h x (by simp [hx])
    obtain ⟨c, d⟩ := h w (by simp)
    rw [List.sum_cons, List.length_cons]
    refine ⟨by omega, ?_⟩
    have : m * ((r.length + 1 : Nat) : Int) = m * (r.length : Int) + m := by rw [Int.natCast_add, Int.mul_add]; simp
    omega
theorem set_map_range (f : Nat → D) (m p : Nat) (y : D) : ((List.range m).map f).set p y = (List.range m).map fun q => if q = p then y else f q := by
  apply List.ext_getElem?
  intro i
  rw [List.getElem?_map]
  by_cases h : i < m
  · rw [List.getElem?_range h]
    by_cases e : i = p
    · subst e
      rw [List.getElem?_set_self (by rw [List.length_map, List.length_range]; exact h)]
      simp
    · rw [List.getElem?_set_ne (Ne.symm e), List.getElem?_map, List.getElem?_range h]
      simp [e]
  · rw [List.getElem?_eq_none (by rw [List.length_set, List.length_map, List.length_range]; omega), List.getElem?_eq_none (by rw [List.length_range]; omega)]
    rfl
theorem v_maxL {p : Addr} {h : MH} {Q : KD} {is : List Int} (e : h p = some (.lst (is.map D.int))) (ne : 0 < is.length) (q : ∀ m, m ∈ is → (∀ y, y ∈ is → y ≤ m) → Q (.int m) h) : maxLD (.ref p) h Q := by
  show seqK _ (seqO (h p))
  rw [e]
  exact ⟨is, intsOf_map is, ne, q⟩
end DL
namespace DL
open PySem PySem.Spec PyProof.Rows L2
/-! what a def that draws has laid: ws are its own things (new since h), in hh; the rest of h stands, but for the draws' list -/
structure LV (h : MH) (a c : Addr) (cs : List Int) (hh : MH) (ws : List (Addr × MO)) : Prop where
  dr0 : Dr a c cs h
  ext : ∃ o, DrO c o ∧ Ext h a o hh
  at_ : ∀ p ∈ ws, hh p.1 = some p.2
  fr : ∀ p ∈ ws, h p.1 = none
  nd : (ws.map (·.1)).Nodup
section
variable {h hh : MH} {a c p l : Addr} {cs : List Int} {ws : List (Addr × MO)} {o x y : MO} {Q : KD}
theorem LV.start (d : Dr a c cs h) : LV h a c cs h [] := by
  obtain ⟨o, e, k⟩ := d.st
  exact ⟨d, ⟨o, k, Ext.start e⟩, by simp, by simp, by simp⟩
theorem LV.dr (L : LV h a c cs hh ws) : Dr a c cs hh := let ⟨_, k, E⟩ := L.ext; E.dr L.dr0 k
theorem LV.old (L : LV h a c cs hh ws) {b : Addr} {u : MO} (e : h b = some u) (n : b ≠ a) : hh b = some u := let ⟨_, _, E⟩ := L.ext; E.get e n
theorem LV.mem (L : LV h a c cs hh ws) (m : (l, x) ∈ ws) : hh l = some x := L.at_ _ m
theorem LV.get (L : LV h a c cs hh ws) (i : Nat) (e : ws[i]? = some (l, x)) : hh l = some x := L.at_ _ (List.mem_of_getElem? e)
theorem LV.ne (L : LV h a c cs hh ws) (n : hh p = none) : p ≠ a := let ⟨_, _, E⟩ := L.ext; (E.ne n).symm
theorem LV.na (L : LV h a c cs hh ws) (m : (l, x) ∈ ws) : l ≠ a := fun z => by
  obtain ⟨o, e, _⟩ := L.dr0.st
  have := L.fr _ m
  rw [show (l, x).1 = a from z, e] at this; cases this
theorem LV.fresh (L : LV h a c cs hh ws) (n : hh p = none) : h p = none := let ⟨_, _, E⟩ := L.ext; E.fresh n
theorem LV.new (L : LV h a c cs hh ws) (n : hh p = none) (x : MO) : LV h a c cs (up hh p x) ((p, x) :: ws) := by
  obtain ⟨o, k, E⟩ := L.ext
  refine ⟨L.dr0, ⟨o, k, E.new n⟩, fun q hq => ?_, fun q hq => ?_, ?_⟩
  · rcases List.mem_cons.mp hq with rfl | hq
    · exact up_same
    · have e := L.at_ q hq
      rw [up_ne (nef e n)]; exact e
  · rcases List.mem_cons.mp hq with rfl | hq
    · exact E.fresh n
    · exact L.fr q hq
  · rw [List.map_cons, List.nodup_cons]
    refine ⟨fun hm => ?_, L.nd⟩
    obtain ⟨q, hq, e⟩ := List.mem_map.mp hm
    have := L.at_ q hq
    rw [e, n] at this; cases this
theorem LV.drawn (L : LV h a c cs hh ws) (k : DrO c o) : LV h a c cs (up hh a o) ws := by
  obtain ⟨o0, k0, E⟩ := L.ext
  refine ⟨L.dr0, ⟨o, k, E.draw⟩, fun q hq => ?_, L.fr, L.nd⟩
  rw [up_ne (L.na (x := q.2) hq)]; exact L.at_ q hq
theorem LV.set (L : LV h a c cs hh ws) (i : Nat) (e : ws[i]? = some (l, x)) (y : MO) : LV h a c cs (up hh l y) (ws.set i (l, y)) := by
  obtain ⟨o, k, E⟩ := L.ext
  have m := List.mem_of_getElem? e
  have hl : h l = none := L.fr _ m
  have la : l ≠ a := L.na m
  have E' : Ext h a o (up hh l y) := by
    refine ⟨fun b u q => ?_, by rw [up_ne la.symm]; exact E.at_⟩
    by_cases z : b = l
    · subst z; rw [up_ne la, hl] at q; cases q
    · rw [up_ne z]; exact E.le_ b u q
  have hi := (List.getElem?_eq_some_iff.mp e).1
  have ei := (List.getElem?_eq_some_iff.mp e).2
  have emap : (ws.set i (l, y)).map (·.1) = ws.map (·.1) := by
    rw [List.map_set]
    refine List.ext_getElem? fun j => ?_
    by_cases z : j = i
    · subst z
      rw [List.getElem?_set_self (by rw [List.length_map]; exact hi), List.getElem?_map, e]; rfl
    · rw [List.getElem?_set_ne (Ne.symm z)]
  refine ⟨L.dr0, ⟨o, k, E'⟩, fun q hq => ?_, fun q hq => ?_, by rw [emap]; exact L.nd⟩
  · obtain ⟨j, hj⟩ := List.getElem?_of_mem hq
    by_cases z : j = i
    · subst z
      rw [List.getElem?_set_self hi] at hj
      cases hj
      exact up_same
    · rw [List.getElem?_set_ne (Ne.symm z)] at hj
      have ql : q.1 ≠ l := fun w => by
        have n1 := L.nd
        have e1 : (ws.map (·.1))[j]? = some l := by rw [List.getElem?_map, hj, ← w]; rfl
        have e2 : (ws.map (·.1))[i]? = some l := by rw [List.getElem?_map, e]; rfl
        have h1 := (List.getElem?_eq_some_iff.mp e1)
        have h2 := (List.getElem?_eq_some_iff.mp e2)
        obtain ⟨a1, b1⟩ := h1
        obtain ⟨a2, b2⟩ := h2
        exact z ((List.getElem_inj n1).mp (b1.trans b2.symm))
      rw [up_ne ql]; exact L.at_ q (List.mem_of_getElem? hj)
  · obtain ⟨j, hj⟩ := List.getElem?_of_mem hq
    by_cases z : j = i
    · subst z
      rw [List.getElem?_set_self hi] at hj
      cases hj
      exact hl
    · rw [List.getElem?_set_ne (Ne.symm z)] at hj
      exact L.fr q (List.mem_of_getElem? hj)
/-- fewer things are told -/
theorem LV.sub (L : LV h a c cs hh ws) {vs : List (Addr × MO)} (s : vs.Sublist ws) : LV h a c cs hh vs := ⟨L.dr0, L.ext, fun p hp => L.at_ p (s.subset hp), fun p hp => L.fr p (s.subset hp), (s.map _).nodup L.nd⟩
theorem LV.tl {w : Addr × MO} (L : LV h a c cs hh (w :: ws)) : LV h a c cs hh ws := L.sub (List.sublist_cons_self w ws)
theorem LV.nil (L : LV h a c cs hh ws) : LV h a c cs hh [] := L.sub (List.nil_sublist ws)
theorem LV.kp {w v : Addr × MO} (L : LV h a c cs hh (w :: v :: ws)) : LV h a c cs hh (w :: ws) := L.sub ((List.sublist_cons_self v ws).cons_cons w)
/-- readers of it -/
theorem LV.newE (L : LV h a c cs hh ws) {h1 : MH} (n : hh p = none) (e : up hh p x = h1) : LV h a c cs h1 ((p, x) :: ws) := e ▸ L.new n x
theorem LV.draw (L : LV h a c cs hh ws) {n : Int} (hn : 0 < n) (hn2 : n < 2 ^ 64) (q : ∀ r h1, 0 ≤ r → r < n → LV h a c cs h1 ws → Q (.int r) h1) : sp__law_draw [.ref a, .int n] hh Q :=
  ⟨a, c, cs, n, rfl, hn, hn2, L.dr, fun r o r0 r1 k => q r _ r0 r1 (L.drawn k)⟩
/-- one of a list that is at hand -/
theorem LV.pick (L : LV h a c cs hh ws) {xs : List D} (e : hh l = some (.lst xs)) (la : l ≠ a) (ne : xs ≠ []) (hl : xs.length < 2 ^ 64) (q : ∀ x ∈ xs, ∀ h1, LV h a c cs h1 ws → Q x h1) : sp__law_pick [.ref a, .ref l] hh Q :=
  ⟨a, c, cs, .ref l, xs, rfl, L.dr, (by show seqO (hh l) = _; rw [e]; rfl), (fun z => by cases z; exact la rfl), ne, hl, fun x o hx k => q x hx _ (L.drawn k)⟩
theorem LV.pickT (L : LV h a c cs hh ws) {xs : List D} (ne : xs ≠ []) (hl : xs.length < 2 ^ 64) (q : ∀ x ∈ xs, ∀ h1, LV h a c cs h1 ws → Q x h1) : sp__law_pick [.ref a, .tup xs] hh Q :=
  ⟨a, c, cs, .tup xs, xs, rfl, L.dr, rfl, (fun z => by cases z), ne, hl, fun x o hx k => q x hx _ (L.drawn k)⟩
/-- one of a list that is written down -/
theorem LV.pickN (L : LV h a c cs hh ws) {xs : List D} (ne : xs ≠ []) (hl : xs.length < 100) (q : ∀ x ∈ xs, ∀ h1, LV h a c cs h1 ws → Q x h1) : ∀ p, hh p = none → sp__law_pick [.ref a, .ref p] (up hh p (.lst xs)) Q := fun p n =>
  (L.new n (.lst xs)).pick (up_same) (L.ne n) ne (by omega) fun x hx h1 L1 => q x hx h1 L1.tl
/-- the end -/
theorem LV.ret (L : LV h a c cs hh ws) {d : D} (q : ∀ o, DrO c o → Q d (up h a o)) : Lh Q d hh := let ⟨o, k, E⟩ := L.ext; ⟨_, E.le_, q o k⟩
theorem LV.retN (L : LV h a c cs hh ws) (m : (p, x) ∈ ws) {d : D} (q : ∀ o, DrO c o → h p = none → Q d (up (up h a o) p x)) : Lh Q d hh := by
  obtain ⟨o, k, E⟩ := L.ext
  refine ⟨_, ?_, q o k (L.fr _ m)⟩
  intro b u e
  by_cases z : b = p
  · subst z; rw [up_same] at e; cases e; exact L.at_ _ m
  · rw [up_ne z] at e; exact E.le_ b u e
end
end DL
namespace DL
open PySem PySem.Spec PyProof.Rows L2
/-! what has a value and changes nothing: proofs that grow with the text alone (a walk over a long list is too much for the kernel) -/
def Ev (t : E1) (σ : Sl) (h : MH) (x : D) : Prop := ∀ Q : KD, Q x h → t σ h Q
def EvA (t : A1) (σ : Sl) (h : MH) (xs : List D) : Prop := ∀ Q : List D → MH → Prop, Q xs h → t σ h Q
section
variable {σ : Sl} {h : MH} {x y z : D} {xs ys : List D} {t a b : E1} {ta r : A1} {i j : Int} {s u : Str} {Q : KD}
theorem Ev.c : Ev (dC x) σ h x := fun _ q => q
theorem Ev.var {k : Nat} (e : nth σ k = some x) : Ev (dVar k) σ h x := fun Q q => by rw [e_var, e]; exact q
theorem EvA.nil : EvA dNil σ h [] := fun _ q => q
theorem EvA.cons (ht : Ev t σ h x) (hr : EvA r σ h xs) : EvA (dCons t r) σ h (x :: xs) := fun Q q => ht _ (hr _ q)
theorem Ev.tup (ht : EvA ta σ h xs) (hl : xs.length ≤ sizeLine) : Ev (dTup ta) σ h (.tup xs) := fun Q q => ht _ ⟨hl, q⟩
theorem Ev.op {rr : R1} (ha : Ev a σ h x) (hb : Ev b σ h y) (hr : ∀ Q : KD, Q z h → rr x y h Q) : Ev (dOp rr a b) σ h z := fun Q q => ha _ (hb _ (hr Q q))
theorem Ev.un {rr : D → MH → KD → Prop} (ha : Ev a σ h x) (hr : ∀ Q : KD, Q z h → rr x h Q) : Ev (dUn rr a) σ h z := fun Q q => ha _ (hr Q q)
theorem Ev.call {rr : C1} (ha : EvA ta σ h xs) (hr : ∀ Q : KD, Q z h → rr xs h Q) : Ev (dCall rr ta) σ h z := fun Q q => ha _ (hr Q q)
theorem Ev.addI (ha : Ev a σ h (.int i)) (hb : Ev b σ h (.int j)) : Ev (dOp addD a b) σ h (.int (i + j)) := .op ha hb fun _ q => q
theorem Ev.subI (ha : Ev a σ h (.int i)) (hb : Ev b σ h (.int j)) : Ev (dOp subD a b) σ h (.int (i - j)) := .op ha hb fun _ q => q
theorem Ev.negI (ha : Ev a σ h (.int i)) : Ev (dUn negD a) σ h (.int (-i)) := .un ha fun _ q => q
theorem Ev.addS (ha : Ev a σ h (.str s)) (hb : Ev b σ h (.str u)) (hl : s.length + u.length ≤ sizeLine) : Ev (dOp addD a b) σ h (.str (s ++ u)) := .op ha hb fun _ q => ⟨hl, q⟩
theorem Ev.addT (ha : Ev a σ h (.tup xs)) (hb : Ev b σ h (.tup ys)) (hl : xs.length + ys.length ≤ sizeLine) : Ev (dOp addD a b) σ h (.tup (xs ++ ys)) := .op ha hb fun _ q => ⟨hl, q⟩
theorem Ev.eqI (ha : Ev a σ h (.int i)) (hb : Ev b σ h (.int j)) : Ev (dOp eqD a b) σ h (.bool (decide (i = j))) := .op ha hb fun _ q => by rw [v_eqI]; exact q
theorem Ev.intB {k : Bool} (ha : Ev a σ h (.bool k)) : Ev (dCall (on1 intD) (dCons a dNil)) σ h (.int (if k = true then 1 else 0)) := .call (.cons ha .nil) fun _ q => q
theorem Ev.ixT {k : Nat} (ha : Ev a σ h (.tup xs)) (hb : Ev b σ h (.int i)) (e : i = (k : Nat)) (hx : xs[k]? = some x) : Ev (dOp ixD a b) σ h x := .op ha hb fun Q q => by
  show atK (atI xs i) h Q
  rw [atI_of e hx]; exact q
theorem Ev.t0 : Ev (dTup dNil) σ h (.tup []) := .tup .nil (by decide)
theorem Ev.t1 (ha : Ev a σ h x) : Ev (dTup (dCons a dNil)) σ h (.tup [x]) := .tup (.cons ha .nil) (show 1 ≤ sizeLine by decide)
theorem Ev.t2 (ha : Ev a σ h x) (hb : Ev b σ h y) : Ev (dTup (dCons a (dCons b dNil))) σ h (.tup [x, y]) := .tup (.cons ha (.cons hb .nil)) (show 2 ≤ sizeLine by decide)
theorem Ev.t3 (ha : Ev a σ h x) (hb : Ev b σ h y) (hc : Ev t σ h z) : Ev (dTup (dCons a (dCons b (dCons t dNil)))) σ h (.tup [x, y, z]) := .tup (.cons ha (.cons hb (.cons hc .nil))) (show 3 ≤ sizeLine by decide)
theorem Ev.t4 {t' : E1} {w : D} (ha : Ev a σ h x) (hb : Ev b σ h y) (hc : Ev t σ h z) (hd : Ev t' σ h w) : Ev (dTup (dCons a (dCons b (dCons t (dCons t' dNil))))) σ h (.tup [x, y, z, w]) := .tup (.cons ha (.cons hb (.cons hc (.cons hd .nil)))) (show 4 ≤ sizeLine by decide)
theorem Ev.slTo (ha : Ev a σ h (.tup xs)) (hb : Ev b σ h (.int i)) : Ev (dSl a dNoPart (dPart b)) σ h (.tup (cutD xs none (some i))) := fun Q q => ha _ (hb _ q)
theorem Ev.slFrom (ha : Ev a σ h (.tup xs)) (hb : Ev b σ h (.int i)) : Ev (dSl a (dPart b) dNoPart) σ h (.tup (cutD xs (some i) none)) := fun Q q => ha _ (hb _ q)
/-- a name is set, and on -/
theorem Ev.set {k : Nat} {N : Nd} {v : S1} (e : Ev t σ h x) (q : v N (put σ k (some x)) h) : dSeq (dAsg t (gN k)) v N σ h := e _ q
theorem Ev.eq (e : Ev t σ h x) (z : x = y) : Ev t σ h y := z ▸ e
/-- a list that is written down -/
theorem Ev.lst (ht : EvA ta σ h xs) (hl : xs.length ≤ sizeLine) (q : ∀ p, h p = none → Q (.ref p) (up h p (.lst xs))) : dLst ta σ h Q := ht _ ⟨hl, q⟩
end
end DL
namespace DL
open PySem PySem.Spec PyProof.Rows L2
/-! without: 0 rows, 1 row, 2 one -/
def rd_without : S1 :=
  (dRet (dCall (on1 tupleD) (dCons (dLc (iSeq (dVar 0)) (gN 2) (dTest (dOp neD (dVar 2) (dVar 1))) (dVar 2) [2]) dNil)))
/-! _law_begin: 0 _law_script, 1 _law_cell -/
def rd__law_begin : S1 :=
  (dRet (dLst (dCons (dLc (iSeq (dVar 0)) (gN 1) dYes (dCall (on1 intD) (dCons (dVar 1) dNil)) [1]) (dCons (dC (.int 0)) (dCons (dC (.int 0)) (dCons (dC (.int 7)) (dCons (dC (.int 3)) dNil)))))))
/-! _law_draw: 0 _law_d, 1 _law_many, 2 _law_found, 3 _law_size, 4 _law_cell -/
def rd__law_draw_6 : S1 :=
  (dRet (dOp modD (dCall (on1 intD) (dCons (dOp fdivD (dOp ixD (dVar 0) (dC (.int 3))) (dC (.int 16))) dNil)) (dVar 1)))
def rd__law_draw_5 : S1 :=
  dSeq (dAsg (dOp modD (dCall (on1 intD) (dCons (dOp addD (dOp addD (dOp addD (dOp mulD (dOp ixD (dVar 0) (dC (.int 3))) (dC (.int 48271))) (dOp mulD (dOp modD (dCall (on1 intD) (dCons (dVar 3) dNil)) (dC (.int 2147483629))) (dC (.int 16807)))) (dOp mulD (dOp ixD (dVar 0) (dC (.int 1))) (dC (.int 69621)))) (dC (.int 11))) dNil)) (dC (.int 2147483647))) (gSb (dVar 0) (dC (.int 3)) setD)) rd__law_draw_6
def rd__law_draw_4 : S1 :=
  dSeq (dIfS (dTest (dOp geD (dVar 3) (dOp mulD (dC (.int 2)) (dOp powD (dC (.int 10)) (dC (.int 18)))))) (dSeq (dAsg (dOp modD (dCall (on1 intD) (dCons (dOp fdivD (dVar 3) (dC (.int 2))) dNil)) (dOp shlD (dC (.int 1)) (dC (.int 6000)))) (gN 2))
  (dSeq (dAsg (dOp fdivD (dVar 2) (dVar 1)) (gSb (dVar 0) (dC (.int 2)) setD))
  (dRet (dOp modD (dCall (on1 intD) (dCons (dVar 2) dNil)) (dVar 1))))) dNext) rd__law_draw_5
def rd__law_draw_3 : S1 :=
  dSeq (dAugS (dVar 0) (dC (.int 1)) (dC (.int 1)) iaddD) rd__law_draw_4
def rd__law_draw_2 : S1 :=
  dSeq (dIfS (dTest (dOp ltD (dOp ixD (dVar 0) (dC (.int 1))) (dCall (on1 lenD) (dCons (dOp ixD (dVar 0) (dC (.int 0))) dNil)))) (dSeq (dAsg (dOp ixD (dOp ixD (dVar 0) (dC (.int 0))) (dOp ixD (dVar 0) (dC (.int 1)))) (gN 4))
  (dAsg (dOp addD (dOp mulD (dC (.int 2)) (dCall (on1 absD) (dCons (dVar 4) dNil))) (dCall (on1 intD) (dCons (dOp ltD (dVar 4) (dC (.int 0))) dNil))) (gN 3))) dNext) rd__law_draw_3
def rd__law_draw_1 : S1 :=
  dSeq (dAsg (dC (.int 0)) (gN 3)) rd__law_draw_2
def rd__law_draw : S1 :=
  dSeq (dIfS (dTest (dOp gtD (dOp ixD (dVar 0) (dC (.int 2))) (dC (.int 0)))) (dSeq (dAsg (dOp ixD (dVar 0) (dC (.int 2))) (gN 2))
  (dSeq (dAsg (dOp fdivD (dVar 2) (dVar 1)) (gSb (dVar 0) (dC (.int 2)) setD))
  (dRet (dOp modD (dCall (on1 intD) (dCons (dVar 2) dNil)) (dVar 1))))) dNext) rd__law_draw_1
/-! _law_pool: 0 _law_text -/
def rd__law_pool_2 : S1 :=
  (dRet (dSplit (dOp addD (dVar 0) (dC (.str (Str.ofString "top2 net3 row col7 v m q a1 yes9 no sal pot8 z kin")))) (dC (.str (Str.ofString " ")))))
def rd__law_pool_1 : S1 :=
  dSeq (dAsg (dOp addD (dVar 0) (dC (.str (Str.ofString "f g h i j k x y q7 deep turn l5 hold next1 o c0 d two near far9 last ring2 aaaaaaa8 b c1 ")))) (gN 0)) rd__law_pool_2
def rd__law_pool : S1 :=
  dSeq (dAsg (dC (.str (Str.ofString "a b2 sum left r k0 carry z9 full tail n m8 aa busy cnt p t4 even2 ab1 head u v2 w lowest high mid s t e "))) (gN 0)) rd__law_pool_1
/-! _law_tags_of: 0 _law_h, 1 _law_kind, 2 _law_row -/
def rd__law_tags_of : S1 :=
  (dRet (dCall (on1 sortedD) (dCons (dLc (iSeq (dOp ixD (dVar 0) (dC (.str (Str.ofString "tags"))))) (gN 2) (dTest (dOp inD (dVar 1) (dOp ixD (dVar 2) (dC (.int 1))))) (dOp ixD (dVar 2) (dC (.int 0))) [2]) dNil)))
/-! _law_numbers_of: 0 _law_h, 1 _law_kind, 2 _law_row -/
def rd__law_numbers_of : S1 :=
  (dRet (dCall (on1 sortedD) (dCons (dLc (iSeq (dOp ixD (dVar 0) (dC (.str (Str.ofString "numbers"))))) (gN 2) (dTest (dOp inD (dVar 1) (dOp ixD (dVar 2) (dC (.int 1))))) (dOp ixD (dVar 2) (dC (.int 0))) [2]) dNil)))
/-! _law_marks: 0 _law_h, 1 _law_row, 2 _law_kind -/
def rd__law_marks : S1 :=
  (dRet (dLc (iSeq (dOp ixD (dVar 0) (dC (.str (Str.ofString "tags"))))) (gN 1) (dTest (dOp gtD (dCall (on1 lenD) (dCons (dLc (iSeq (dOp ixD (dVar 1) (dC (.int 1)))) (gN 2) (dTest (dOp inD (dVar 2) (dOp ixD (dVar 0) (dC (.str (Str.ofString "group")))))) (dVar 2) [2]) dNil)) (dC (.int 0)))) (dOp ixD (dVar 1) (dC (.int 0))) [1]))
/-! _law_passes: 0 _law_tests, 1 _law_marks_here, 2 _law_tag, 3 _law_truth -/
def rd__law_passes_b1 : S1 :=
  (dIfS (dTest (dOp neD (dOp inD (dVar 2) (dVar 1)) (dVar 3))) (dRet (dC (.bool false))) dNext)
def rd__law_passes_1 : S1 :=
  (dRet (dC (.bool true)))
def rd__law_passes : S1 :=
  dSeq (dFor (iSeq (dVar 0)) (gTp 2 (gCn (gN 2) (gCn (gN 3) gNl))) rd__law_passes_b1) rd__law_passes_1
/-! _law_standing: 0 _law_h, 1 _law_kinds_here, 2 _law_name, 3 _law_kind, 4 _law_tags -/
def rd__law_standing_1 : S1 :=
  (dRet (dTup (dCons (dVar 3) (dCons (dIf (dTest (dOp inD (dVar 3) (dOp ixD (dVar 0) (dC (.str (Str.ofString "group")))))) (dVar 4) (dTup dNil)) dNil))))
def rd__law_standing : S1 :=
  dSeq (dAsg (dOp ixD (dVar 1) (dVar 2)) (gTp 2 (gCn (gN 3) (gCn (gN 4) gNl)))) rd__law_standing_1
/-! _law_letter: 0 _law_h, 1 _law_kinds_here, 2 _law_tie, 3 _law_end, 4 _law_kind, 5 _law_tags -/
def rd__law_letter_2 : S1 :=
  (dRet (dTup (dCons (dVar 2) (dCons (dVar 4) (dCons (dIf (dTest (dOp inD (dVar 4) (dOp ixD (dVar 0) (dC (.str (Str.ofString "group")))))) (dVar 5) (dTup dNil)) dNil)))))
def rd__law_letter_1 : S1 :=
  dSeq (dAsg (dOp ixD (dVar 1) (dVar 3)) (gTp 2 (gCn (gN 4) (gCn (gN 5) gNl)))) rd__law_letter_2
def rd__law_letter : S1 :=
  dSeq (dIfS (dTest (dOp ninD (dVar 3) (dVar 1))) (dRet (dTup (dCons (dVar 2) (dCons (dVar 3) (dCons (dTup dNil) dNil))))) dNext) rd__law_letter_1
/-! _law_kinds: 0 _law_nodes, 1 _law_found, 2 _law_name, 3 _law_kind, 4 _law_tags -/
def rd__law_kinds_b1 : S1 :=
  (dAsg (dTup (dCons (dVar 3) (dCons (dVar 4) dNil))) (gSb (dVar 1) (dVar 2) setD))
def rd__law_kinds_2 : S1 :=
  (dRet (dVar 1))
def rd__law_kinds_1 : S1 :=
  dSeq (dFor (iSeq (dVar 0)) (gTp 3 (gCn (gN 2) (gCn (gN 3) (gCn (gN 4) gNl)))) rd__law_kinds_b1) rd__law_kinds_2
def rd__law_kinds : S1 :=
  dSeq (dAsg dDic0 (gN 1)) rd__law_kinds_1
/-! _law_lesser: 0 _law_sight, 1 _law_found, 2 _law_part, 3 _law_row, 4 _law_rows, 5 _law_one -/
def rd__law_lesser_b2 : S1 :=
  (dIfS (dOrT (dTest (dOp neD (dVar 2) (dC (.int 1)))) (dTest (dOp ninD (dSl (dVar 3) dNoPart (dPart (dC (.int 2)))) (dOp ixD (dVar 0) (dC (.int 2)))))) (dSeq (dAsg (dCall (on1 tupleD) (dCons (dLc (iSeq (dOp ixD (dVar 0) (dVar 2))) (gN 5) (dTest (dOp neD (dVar 5) (dVar 3))) (dVar 5) [5]) dNil)) (gN 4))
  (dDrop (dBM okL appendD (dVar 1) (dCons (dOp addD (dOp addD (dSl (dVar 0) dNoPart (dPart (dVar 2))) (dTup (dCons (dVar 4) dNil))) (dSl (dVar 0) (dPart (dOp addD (dVar 2) (dC (.int 1)))) dNoPart)) dNil)))) dNext)
def rd__law_lesser_b1 : S1 :=
  (dFor (iSeq (dOp ixD (dVar 0) (dVar 2))) (gN 3) rd__law_lesser_b2)
def rd__law_lesser_2 : S1 :=
  (dRet (dVar 1))
def rd__law_lesser_1 : S1 :=
  dSeq (dFor (iSeq (dTup (dCons (dC (.int 2)) (dCons (dC (.int 1)) (dCons (dC (.int 3)) (dCons (dC (.int 4)) dNil)))))) (gN 2) rd__law_lesser_b1) rd__law_lesser_2
def rd__law_lesser : S1 :=
  dSeq (dAsg (dLst dNil) (gN 1)) rd__law_lesser_1
/-! drop_closed: 0 sight, 1 pair -/
def rd_drop_closed (sp_without : P1) : S1 :=
  (dRet (dTup (dCons (dOp ixD (dVar 0) (dC (.int 0))) (dCons (dOp ixD (dVar 0) (dC (.int 1))) (dCons (dCall sp_without (dCons (dOp ixD (dVar 0) (dC (.int 2))) (dCons (dVar 1) dNil))) (dCons (dOp ixD (dVar 0) (dC (.int 3))) (dCons (dOp ixD (dVar 0) (dC (.int 4))) dNil)))))))
/-! drop_link: 0 sight, 1 link -/
def rd_drop_link (sp_without : P1) : S1 :=
  (dRet (dTup (dCons (dOp ixD (dVar 0) (dC (.int 0))) (dCons (dCall sp_without (dCons (dOp ixD (dVar 0) (dC (.int 1))) (dCons (dVar 1) dNil))) (dCons (dOp ixD (dVar 0) (dC (.int 2))) (dCons (dOp ixD (dVar 0) (dC (.int 3))) (dCons (dOp ixD (dVar 0) (dC (.int 4))) dNil)))))))
/-! drop_tag: 0 sight, 1 row -/
def rd_drop_tag (sp_without : P1) : S1 :=
  (dRet (dTup (dCons (dOp ixD (dVar 0) (dC (.int 0))) (dCons (dOp ixD (dVar 0) (dC (.int 1))) (dCons (dOp ixD (dVar 0) (dC (.int 2))) (dCons (dCall sp_without (dCons (dOp ixD (dVar 0) (dC (.int 3))) (dCons (dVar 1) dNil))) (dCons (dOp ixD (dVar 0) (dC (.int 4))) dNil)))))))
/-! drop_number: 0 sight, 1 row -/
def rd_drop_number (sp_without : P1) : S1 :=
  (dRet (dTup (dCons (dOp ixD (dVar 0) (dC (.int 0))) (dCons (dOp ixD (dVar 0) (dC (.int 1))) (dCons (dOp ixD (dVar 0) (dC (.int 2))) (dCons (dOp ixD (dVar 0) (dC (.int 3))) (dCons (dCall sp_without (dCons (dOp ixD (dVar 0) (dC (.int 4))) (dCons (dVar 1) dNil))) dNil)))))))
/-! _law_pick: 0 _law_d, 1 _law_row -/
def rd__law_pick (sp__law_draw : P1) : S1 :=
  (dRet (dOp ixD (dVar 1) (dCall sp__law_draw (dCons (dVar 0) (dCons (dCall (on1 lenD) (dCons (dVar 1) dNil)) dNil)))))
/-! _law_pop: 0 _law_d, 1 _law_row -/
def rd__law_pop (sp__law_draw : P1) : S1 :=
  (dRet (dBM okL popD (dVar 1) (dCons (dCall sp__law_draw (dCons (dVar 0) (dCons (dCall (on1 lenD) (dCons (dVar 1) dNil)) dNil))) dNil)))
/-! _law_rare: 0 _law_d, 1 _law_many -/
def rd__law_rare (sp__law_draw : P1) : S1 :=
  (dRet (dOp eqD (dCall sp__law_draw (dCons (dVar 0) (dCons (dVar 1) dNil))) (dOp fdivD (dVar 1) (dC (.int 2)))))
/-! _law_some: 0 _law_d, 1 _law_row, 2 _law_least, 3 _law_found, 4 _law_left, 5 _law_item -/
def rd__law_some_b1 (sp__law_draw : P1) : S1 :=
  (dDrop (dBM okL appendD (dVar 3) (dCons (dBM okL popD (dVar 4) (dCons (dCall sp__law_draw (dCons (dVar 0) (dCons (dCall (on1 lenD) (dCons (dVar 4) dNil)) dNil))) dNil)) dNil)))
def rd__law_some_3 (sp__law_draw : P1) : S1 :=
  (dRet (dVar 3))
def rd__law_some_2 (sp__law_draw : P1) : S1 :=
  dSeq (dWhile (dAndT (dTest (dOp ltD (dCall (on1 lenD) (dCons (dVar 3) dNil)) (dVar 2))) (dTest (dOp gtD (dCall (on1 lenD) (dCons (dVar 4) dNil)) (dC (.int 0))))) (rd__law_some_b1 sp__law_draw)) (rd__law_some_3 sp__law_draw)
def rd__law_some_1 (sp__law_draw : P1) : S1 :=
  dSeq (dAsg (dLc (iSeq (dVar 1)) (gN 5) (dTest (dOp ninD (dVar 5) (dVar 3))) (dVar 5) [5]) (gN 4)) (rd__law_some_2 sp__law_draw)
def rd__law_some (sp__law_draw : P1) : S1 :=
  dSeq (dAsg (dLc (iSeq (dVar 1)) (gN 5) (dTest (dOp eqD (dCall sp__law_draw (dCons (dVar 0) (dCons (dC (.int 2)) dNil))) (dC (.int 0)))) (dVar 5) [5]) (gN 3)) (rd__law_some_1 sp__law_draw)
/-! _law_shuffled: 0 _law_d, 1 _law_row, 2 _law_left, 3 _law_found, 4 _law_k -/
def rd__law_shuffled_b1 (sp__law_draw : P1) : S1 :=
  (dDrop (dBM okL appendD (dVar 3) (dCons (dBM okL popD (dVar 2) (dCons (dCall sp__law_draw (dCons (dVar 0) (dCons (dCall (on1 lenD) (dCons (dVar 2) dNil)) dNil))) dNil)) dNil)))
def rd__law_shuffled_3 (sp__law_draw : P1) : S1 :=
  (dRet (dVar 3))
def rd__law_shuffled_2 (sp__law_draw : P1) : S1 :=
  dSeq (dFor (iRg1 (dCons (dCall (on1 lenD) (dCons (dVar 2) dNil)) dNil)) (gN 4) (rd__law_shuffled_b1 sp__law_draw)) (rd__law_shuffled_3 sp__law_draw)
def rd__law_shuffled_1 (sp__law_draw : P1) : S1 :=
  dSeq (dAsg (dLst dNil) (gN 3)) (rd__law_shuffled_2 sp__law_draw)
def rd__law_shuffled (sp__law_draw : P1) : S1 :=
  dSeq (dAsg (dCall (on1 listD) (dCons (dVar 1) dNil)) (gN 2)) (rd__law_shuffled_1 sp__law_draw)
/-! _law_allowed: 0 _law_h, 1 _law_standing_here, 2 _law_letter_here, 3 _law_rows, 4 _law_tie, 5 _law_first, 6 _law_second, 7 _law_row, 8 _law_tag -/
def rd__law_allowed_b1 (sp__law_tags_of : P1) (sp__law_passes : P1) : S1 :=
  (dIfS (dAndT (dTest (dOp eqD (dVar 4) (dOp ixD (dVar 2) (dC (.int 0))))) (dAndT (dTru (dCall sp__law_passes (dCons (dVar 5) (dCons (dOp ixD (dVar 1) (dC (.int 1))) dNil)))) (dTru (dCall sp__law_passes (dCons (dVar 6) (dCons (dOp ixD (dVar 2) (dC (.int 2))) dNil)))))) (dRet (dC (.bool false))) dNext)
def rd__law_allowed_6 (sp__law_tags_of : P1) (sp__law_passes : P1) : S1 :=
  (dRet (dC (.bool true)))
def rd__law_allowed_5 (sp__law_tags_of : P1) (sp__law_passes : P1) : S1 :=
  dSeq (dFor (iSeq (dOp ixD (dVar 0) (dC (.str (Str.ofString "nevers"))))) (gTp 3 (gCn (gN 4) (gCn (gN 5) (gCn (gN 6) gNl)))) (rd__law_allowed_b1 sp__law_tags_of sp__law_passes)) (rd__law_allowed_6 sp__law_tags_of sp__law_passes)
def rd__law_allowed_4 (sp__law_tags_of : P1) (sp__law_passes : P1) : S1 :=
  dSeq (dIfS (dTest (dOp ninD (dOp ixD (dVar 1) (dC (.int 0))) (dOp ixD (dVar 0) (dC (.str (Str.ofString "group")))))) (dRet (dC (.bool true))) dNext) (rd__law_allowed_5 sp__law_tags_of sp__law_passes)
def rd__law_allowed_3 (sp__law_tags_of : P1) (sp__law_passes : P1) : S1 :=
  dSeq (dIfS (dNotT (dTru (dCall (on1 allD) (dCons (dLc (iSeq (dOp ixD (dVar 2) (dC (.int 2)))) (gN 8) dYes (dOp inD (dVar 8) (dCall sp__law_tags_of (dCons (dVar 0) (dCons (dOp ixD (dVar 2) (dC (.int 1))) dNil)))) [8]) dNil)))) (dRet (dC (.bool false))) dNext) (rd__law_allowed_4 sp__law_tags_of sp__law_passes)
def rd__law_allowed_2 (sp__law_tags_of : P1) (sp__law_passes : P1) : S1 :=
  dSeq (dIfS (dTest (dOp ninD (dOp ixD (dVar 2) (dC (.int 1))) (dOp ixD (dVar 0) (dC (.str (Str.ofString "group")))))) (dRet (dOp eqD (dOp ixD (dVar 2) (dC (.int 2))) (dTup dNil))) dNext) (rd__law_allowed_3 sp__law_tags_of sp__law_passes)
def rd__law_allowed_1 (sp__law_tags_of : P1) (sp__law_passes : P1) : S1 :=
  dSeq (dIfS (dOrT (dTest (dOp eqD (dCall (on1 lenD) (dCons (dVar 3) dNil)) (dC (.int 0)))) (dOrT (dTest (dOp ninD (dOp ixD (dVar 1) (dC (.int 0))) (dOp ixD (dOp ixD (dVar 3) (dC (.int 0))) (dC (.int 1))))) (dTest (dOp ninD (dOp ixD (dVar 2) (dC (.int 1))) (dOp ixD (dOp ixD (dVar 3) (dC (.int 0))) (dC (.int 2))))))) (dRet (dC (.bool false))) dNext) (rd__law_allowed_2 sp__law_tags_of sp__law_passes)
def rd__law_allowed (sp__law_tags_of : P1) (sp__law_passes : P1) : S1 :=
  dSeq (dAsg (dLc (iSeq (dOp ixD (dVar 0) (dC (.str (Str.ofString "ties"))))) (gN 7) (dTest (dOp eqD (dOp ixD (dVar 7) (dC (.int 0))) (dOp ixD (dVar 2) (dC (.int 0))))) (dVar 7) [7]) (gN 3)) (rd__law_allowed_1 sp__law_tags_of sp__law_passes)
/-! _law_full_sight: 0 _law_h, 1 _law_world_here, 2 _law_nodes, 3 _law_closed, 4 _law_tags, 5 _law_name, 6 _law_kind, 7 _law_marks_here, 8 _law_tie, 9 _law_fronts, 10 _law_ends, 11 _law_tag -/
def rd__law_full_sight_b2 (sp__law_tags_of : P1) : S1 :=
  (dIfS (dTest (dOp inD (dVar 6) (dVar 9))) (dDrop (dBM okL appendD (dVar 3) (dCons (dTup (dCons (dVar 5) (dCons (dVar 8) dNil))) dNil))) dNext)
def rd__law_full_sight_b3 (sp__law_tags_of : P1) : S1 :=
  (dDrop (dBM okL appendD (dVar 4) (dCons (dTup (dCons (dVar 5) (dCons (dVar 11) (dCons (dOp inD (dVar 11) (dVar 7)) dNil)))) dNil)))
def rd__law_full_sight_b1_2 (sp__law_tags_of : P1) : S1 :=
  (dIfS (dTest (dOp ninD (dVar 6) (dOp ixD (dVar 0) (dC (.str (Str.ofString "group")))))) (dFor (iSeq (dCall sp__law_tags_of (dCons (dVar 0) (dCons (dVar 6) dNil)))) (gN 11) (rd__law_full_sight_b3 sp__law_tags_of)) dNext)
def rd__law_full_sight_b1_1 (sp__law_tags_of : P1) : S1 :=
  dSeq (dFor (iSeq (dOp ixD (dVar 0) (dC (.str (Str.ofString "ties"))))) (gTp 3 (gCn (gN 8) (gCn (gN 9) (gCn (gN 10) gNl)))) (rd__law_full_sight_b2 sp__law_tags_of)) (rd__law_full_sight_b1_2 sp__law_tags_of)
def rd__law_full_sight_b1 (sp__law_tags_of : P1) : S1 :=
  dSeq (dDrop (dBM okL appendD (dVar 2) (dCons (dTup (dCons (dVar 5) (dCons (dVar 6) (dCons (dIf (dTest (dOp inD (dVar 6) (dOp ixD (dVar 0) (dC (.str (Str.ofString "group")))))) (dVar 7) (dTup dNil)) dNil)))) dNil))) (rd__law_full_sight_b1_1 sp__law_tags_of)
def rd__law_full_sight_4 (sp__law_tags_of : P1) : S1 :=
  (dRet (dTup (dCons (dCall (on1 tupleD) (dCons (dVar 2) dNil)) (dCons (dOp ixD (dVar 1) (dC (.int 1))) (dCons (dCall (on1 tupleD) (dCons (dCall (on1 sortedD) (dCons (dVar 3) dNil)) dNil)) (dCons (dCall (on1 tupleD) (dCons (dCall (on1 sortedD) (dCons (dVar 4) dNil)) dNil)) (dCons (dOp ixD (dVar 1) (dC (.int 2))) dNil)))))))
def rd__law_full_sight_3 (sp__law_tags_of : P1) : S1 :=
  dSeq (dFor (iSeq (dOp ixD (dVar 1) (dC (.int 0)))) (gTp 3 (gCn (gN 5) (gCn (gN 6) (gCn (gN 7) gNl)))) (rd__law_full_sight_b1 sp__law_tags_of)) (rd__law_full_sight_4 sp__law_tags_of)
def rd__law_full_sight_2 (sp__law_tags_of : P1) : S1 :=
  dSeq (dAsg (dLst dNil) (gN 4)) (rd__law_full_sight_3 sp__law_tags_of)
def rd__law_full_sight_1 (sp__law_tags_of : P1) : S1 :=
  dSeq (dAsg (dLst dNil) (gN 3)) (rd__law_full_sight_2 sp__law_tags_of)
def rd__law_full_sight (sp__law_tags_of : P1) : S1 :=
  dSeq (dAsg (dLst dNil) (gN 2)) (rd__law_full_sight_1 sp__law_tags_of)
/-! weaker: 0 sight, 1 found, 2 pair, 3 link, 4 row -/
def rd_weaker_4 (sp_drop_closed : P1) (sp_drop_link : P1) (sp_drop_tag : P1) (sp_drop_number : P1) : S1 :=
  (dRet (dCall (on1 tupleD) (dCons (dVar 1) dNil)))
def rd_weaker_3 (sp_drop_closed : P1) (sp_drop_link : P1) (sp_drop_tag : P1) (sp_drop_number : P1) : S1 :=
  dSeq (dDrop (dBM okL extendD (dVar 1) (dCons (dLc (iSeq (dOp ixD (dVar 0) (dC (.int 4)))) (gN 4) dYes (dCall sp_drop_number (dCons (dVar 0) (dCons (dVar 4) dNil))) [4]) dNil))) (rd_weaker_4 sp_drop_closed sp_drop_link sp_drop_tag sp_drop_number)
def rd_weaker_2 (sp_drop_closed : P1) (sp_drop_link : P1) (sp_drop_tag : P1) (sp_drop_number : P1) : S1 :=
  dSeq (dDrop (dBM okL extendD (dVar 1) (dCons (dLc (iSeq (dOp ixD (dVar 0) (dC (.int 3)))) (gN 4) dYes (dCall sp_drop_tag (dCons (dVar 0) (dCons (dVar 4) dNil))) [4]) dNil))) (rd_weaker_3 sp_drop_closed sp_drop_link sp_drop_tag sp_drop_number)
def rd_weaker_1 (sp_drop_closed : P1) (sp_drop_link : P1) (sp_drop_tag : P1) (sp_drop_number : P1) : S1 :=
  dSeq (dDrop (dBM okL extendD (dVar 1) (dCons (dLc (iSeq (dOp ixD (dVar 0) (dC (.int 1)))) (gN 3) (dTest (dOp ninD (dSl (dVar 3) dNoPart (dPart (dC (.int 2)))) (dOp ixD (dVar 0) (dC (.int 2))))) (dCall sp_drop_link (dCons (dVar 0) (dCons (dVar 3) dNil))) [3]) dNil))) (rd_weaker_2 sp_drop_closed sp_drop_link sp_drop_tag sp_drop_number)
def rd_weaker (sp_drop_closed : P1) (sp_drop_link : P1) (sp_drop_tag : P1) (sp_drop_number : P1) : S1 :=
  dSeq (dAsg (dLc (iSeq (dOp ixD (dVar 0) (dC (.int 2)))) (gN 2) dYes (dCall sp_drop_closed (dCons (dVar 0) (dCons (dVar 2) dNil))) [2]) (gN 1)) (rd_weaker_1 sp_drop_closed sp_drop_link sp_drop_tag sp_drop_number)
/-! _law_plan_ties: 0 _law_d, 1 _law_h, 2 _law_pool_here, 3 _law_rich, 4 _law_everybody, 5 _law_rows, 6 _law_k, 7 _law_fronts, 8 _law_ends -/
def rd__law_plan_ties_b1_2 (sp__law_pop : P1) (sp__law_draw : P1) (sp__law_some : P1) (sp__law_shuffled : P1) : S1 :=
  (dDrop (dBM okL appendD (dVar 5) (dCons (dTup (dCons (dCall sp__law_pop (dCons (dVar 0) (dCons (dVar 2) dNil))) (dCons (dCall (on1 tupleD) (dCons (dVar 7) dNil)) (dCons (dCall (on1 tupleD) (dCons (dVar 8) dNil)) dNil)))) dNil)))
def rd__law_plan_ties_b1_1 (sp__law_pop : P1) (sp__law_draw : P1) (sp__law_some : P1) (sp__law_shuffled : P1) : S1 :=
  dSeq (dAsg (dCall sp__law_some (dCons (dVar 0) (dCons (dOp addD (dOp addD (dOp ixD (dVar 1) (dC (.str (Str.ofString "group")))) (dOp ixD (dVar 1) (dC (.str (Str.ofString "thing"))))) (dOp ixD (dVar 1) (dC (.str (Str.ofString "badge"))))) (dCons (dC (.int 1)) dNil)))) (gN 8)) (rd__law_plan_ties_b1_2 sp__law_pop sp__law_draw sp__law_some sp__law_shuffled)
def rd__law_plan_ties_b1 (sp__law_pop : P1) (sp__law_draw : P1) (sp__law_some : P1) (sp__law_shuffled : P1) : S1 :=
  dSeq (dAsg (dCall sp__law_some (dCons (dVar 0) (dCons (dVar 4) (dCons (dC (.int 1)) dNil)))) (gN 7)) (rd__law_plan_ties_b1_1 sp__law_pop sp__law_draw sp__law_some sp__law_shuffled)
def rd__law_plan_ties_4 (sp__law_pop : P1) (sp__law_draw : P1) (sp__law_some : P1) (sp__law_shuffled : P1) : S1 :=
  (dRet (dCall sp__law_shuffled (dCons (dVar 0) (dCons (dVar 5) dNil))))
def rd__law_plan_ties_3 (sp__law_pop : P1) (sp__law_draw : P1) (sp__law_some : P1) (sp__law_shuffled : P1) : S1 :=
  dSeq (dFor (iRg1 (dCons (dCall sp__law_draw (dCons (dVar 0) (dCons (dOp addD (dC (.int 1)) (dVar 3)) dNil))) dNil)) (gN 6) (rd__law_plan_ties_b1 sp__law_pop sp__law_draw sp__law_some sp__law_shuffled)) (rd__law_plan_ties_4 sp__law_pop sp__law_draw sp__law_some sp__law_shuffled)
def rd__law_plan_ties_2 (sp__law_pop : P1) (sp__law_draw : P1) (sp__law_some : P1) (sp__law_shuffled : P1) : S1 :=
  dSeq (dDrop (dBM okL appendD (dVar 5) (dCons (dTup (dCons (dCall sp__law_pop (dCons (dVar 0) (dCons (dVar 2) dNil))) (dCons (dCall (on1 tupleD) (dCons (dVar 4) dNil)) (dCons (dCall (on1 tupleD) (dCons (dOp addD (dOp ixD (dVar 1) (dC (.str (Str.ofString "thing")))) (dOp ixD (dVar 1) (dC (.str (Str.ofString "badge"))))) dNil)) dNil)))) dNil))) (rd__law_plan_ties_3 sp__law_pop sp__law_draw sp__law_some sp__law_shuffled)
def rd__law_plan_ties_1 (sp__law_pop : P1) (sp__law_draw : P1) (sp__law_some : P1) (sp__law_shuffled : P1) : S1 :=
  dSeq (dAsg (dLst (dCons (dTup (dCons (dCall sp__law_pop (dCons (dVar 0) (dCons (dVar 2) dNil))) (dCons (dCall (on1 tupleD) (dCons (dVar 4) dNil)) (dCons (dCall (on1 tupleD) (dCons (dOp ixD (dVar 1) (dC (.str (Str.ofString "group")))) dNil)) dNil)))) dNil)) (gN 5)) (rd__law_plan_ties_2 sp__law_pop sp__law_draw sp__law_some sp__law_shuffled)
def rd__law_plan_ties (sp__law_pop : P1) (sp__law_draw : P1) (sp__law_some : P1) (sp__law_shuffled : P1) : S1 :=
  dSeq (dAsg (dOp addD (dOp ixD (dVar 1) (dC (.str (Str.ofString "asker")))) (dOp ixD (dVar 1) (dC (.str (Str.ofString "group"))))) (gN 4)) (rd__law_plan_ties_1 sp__law_pop sp__law_draw sp__law_some sp__law_shuffled)
/-! _law_plan_tests: 0 _law_d, 1 _law_marks_here, 2 _law_found, 3 _law_tag -/
def rd__law_plan_tests_b1 (sp__law_shuffled : P1) (sp__law_draw : P1) : S1 :=
  (dIfS (dTest (dOp eqD (dCall sp__law_draw (dCons (dVar 0) (dCons (dC (.int 2)) dNil))) (dC (.int 0)))) (dDrop (dBM okL appendD (dVar 2) (dCons (dTup (dCons (dVar 3) (dCons (dOp eqD (dCall sp__law_draw (dCons (dVar 0) (dCons (dC (.int 2)) dNil))) (dC (.int 0))) dNil))) dNil))) dNext)
def rd__law_plan_tests_2 (sp__law_shuffled : P1) (sp__law_draw : P1) : S1 :=
  (dRet (dCall (on1 tupleD) (dCons (dVar 2) dNil)))
def rd__law_plan_tests_1 (sp__law_shuffled : P1) (sp__law_draw : P1) : S1 :=
  dSeq (dFor (iSeq (dCall sp__law_shuffled (dCons (dVar 0) (dCons (dVar 1) dNil)))) (gN 3) (rd__law_plan_tests_b1 sp__law_shuffled sp__law_draw)) (rd__law_plan_tests_2 sp__law_shuffled sp__law_draw)
def rd__law_plan_tests (sp__law_shuffled : P1) (sp__law_draw : P1) : S1 :=
  dSeq (dAsg (dLst dNil) (gN 2)) (rd__law_plan_tests_1 sp__law_shuffled sp__law_draw)
/-! _law_node_names: 0 _law_d, 1 _law_pool_here, 2 _law_many, 3 _law_found, 4 _law_k -/
def rd__law_node_names_b1 (sp__law_pop : P1) : S1 :=
  (dIfS (dTest (dOp gtD (dCall (on1 lenD) (dCons (dVar 1) dNil)) (dC (.int 0)))) (dDrop (dBM okL appendD (dVar 3) (dCons (dCall sp__law_pop (dCons (dVar 0) (dCons (dVar 1) dNil))) dNil))) (dDrop (dBM okL appendD (dVar 3) (dCons (dOp addD (dC (.str (Str.ofString "nn"))) (dCall (on1 strD) (dCons (dVar 4) dNil))) dNil))))
def rd__law_node_names_2 (sp__law_pop : P1) : S1 :=
  (dRet (dVar 3))
def rd__law_node_names_1 (sp__law_pop : P1) : S1 :=
  dSeq (dFor (iRg1 (dCons (dVar 2) dNil)) (gN 4) (rd__law_node_names_b1 sp__law_pop)) (rd__law_node_names_2 sp__law_pop)
def rd__law_node_names (sp__law_pop : P1) : S1 :=
  dSeq (dAsg (dLst dNil) (gN 3)) (rd__law_node_names_1 sp__law_pop)
/-! _law_drawn_nodes: 0 _law_d, 1 _law_h, 2 _law_names, 3 _law_found, 4 _law_k, 5 _law_way, 6 _law_sort, 7 _law_kind, 8 _law_tags, 9 _law_tag -/
def rd__law_drawn_nodes_b1_4 (sp__law_draw : P1) (sp__law_pick : P1) (sp__law_tags_of : P1) : S1 :=
  (dDrop (dBM okL appendD (dVar 3) (dCons (dTup (dCons (dOp ixD (dVar 2) (dVar 4)) (dCons (dVar 7) (dCons (dCall (on1 tupleD) (dCons (dVar 8) dNil)) dNil)))) dNil)))
def rd__law_drawn_nodes_b1_3 (sp__law_draw : P1) (sp__law_pick : P1) (sp__law_tags_of : P1) : S1 :=
  dSeq (dAsg (dLc (iSeq (dCall sp__law_tags_of (dCons (dVar 1) (dCons (dVar 7) dNil)))) (gN 9) (dTest (dOp eqD (dCall sp__law_draw (dCons (dVar 0) (dCons (dC (.int 2)) dNil))) (dC (.int 0)))) (dVar 9) [9]) (gN 8)) (rd__law_drawn_nodes_b1_4 sp__law_draw sp__law_pick sp__law_tags_of)
def rd__law_drawn_nodes_b1_2 (sp__law_draw : P1) (sp__law_pick : P1) (sp__law_tags_of : P1) : S1 :=
  dSeq (dAsg (dIf (dTest (dOp ltD (dVar 4) (dC (.int 3)))) (dOp ixD (dOp ixD (dVar 1) (dVar 6)) (dC (.int 0))) (dCall sp__law_pick (dCons (dVar 0) (dCons (dOp ixD (dVar 1) (dVar 6)) dNil)))) (gN 7)) (rd__law_drawn_nodes_b1_3 sp__law_draw sp__law_pick sp__law_tags_of)
def rd__law_drawn_nodes_b1_1 (sp__law_draw : P1) (sp__law_pick : P1) (sp__law_tags_of : P1) : S1 :=
  dSeq (dAsg (dIf (dTest (dOp eqD (dVar 5) (dC (.int 0)))) (dC (.str (Str.ofString "asker"))) (dIf (dTest (dOp eqD (dVar 5) (dC (.int 1)))) (dC (.str (Str.ofString "thing"))) (dC (.str (Str.ofString "group"))))) (gN 6)) (rd__law_drawn_nodes_b1_2 sp__law_draw sp__law_pick sp__law_tags_of)
def rd__law_drawn_nodes_b1 (sp__law_draw : P1) (sp__law_pick : P1) (sp__law_tags_of : P1) : S1 :=
  dSeq (dAsg (dIf (dTest (dOp ltD (dVar 4) (dC (.int 3)))) (dVar 4) (dCall sp__law_draw (dCons (dVar 0) (dCons (dC (.int 5)) dNil)))) (gN 5)) (rd__law_drawn_nodes_b1_1 sp__law_draw sp__law_pick sp__law_tags_of)
def rd__law_drawn_nodes_2 (sp__law_draw : P1) (sp__law_pick : P1) (sp__law_tags_of : P1) : S1 :=
  (dRet (dCall (on1 tupleD) (dCons (dCall (on1 sortedD) (dCons (dVar 3) dNil)) dNil)))
def rd__law_drawn_nodes_1 (sp__law_draw : P1) (sp__law_pick : P1) (sp__law_tags_of : P1) : S1 :=
  dSeq (dFor (iRg1 (dCons (dCall (on1 lenD) (dCons (dVar 2) dNil)) dNil)) (gN 4) (rd__law_drawn_nodes_b1 sp__law_draw sp__law_pick sp__law_tags_of)) (rd__law_drawn_nodes_2 sp__law_draw sp__law_pick sp__law_tags_of)
def rd__law_drawn_nodes (sp__law_draw : P1) (sp__law_pick : P1) (sp__law_tags_of : P1) : S1 :=
  dSeq (dAsg (dLst dNil) (gN 3)) (rd__law_drawn_nodes_1 sp__law_draw sp__law_pick sp__law_tags_of)
/-! _law_drawn_links: 0 _law_d, 1 _law_h, 2 _law_nodes, 3 _law_many, 4 _law_kinds_here, 5 _law_fronts, 6 _law_groups, 7 _law_ends, 8 _law_found, 9 _law_k, 10 _law_node, 11 _law_end, 12 _law_tie, 13 _law_link, 14 _law_row -/
def rd__law_drawn_links_b1_4 (sp__law_kinds : P1) (sp__law_pick : P1) (sp__law_allowed : P1) (sp__law_letter : P1) (sp__law_standing : P1) : S1 :=
  (dIfS (dAndT (dTest (dOp ninD (dVar 13) (dVar 8))) (dTru (dCall sp__law_allowed (dCons (dVar 1) (dCons (dCall sp__law_standing (dCons (dVar 1) (dCons (dVar 4) (dCons (dVar 10) dNil)))) (dCons (dCall sp__law_letter (dCons (dVar 1) (dCons (dVar 4) (dCons (dVar 12) (dCons (dVar 11) dNil))))) dNil)))))) (dDrop (dBM okL appendD (dVar 8) (dCons (dVar 13) dNil))) dNext)
def rd__law_drawn_links_b1_3 (sp__law_kinds : P1) (sp__law_pick : P1) (sp__law_allowed : P1) (sp__law_letter : P1) (sp__law_standing : P1) : S1 :=
  dSeq (dAsg (dTup (dCons (dVar 10) (dCons (dVar 12) (dCons (dVar 11) dNil)))) (gN 13)) (rd__law_drawn_links_b1_4 sp__law_kinds sp__law_pick sp__law_allowed sp__law_letter sp__law_standing)
def rd__law_drawn_links_b1_2 (sp__law_kinds : P1) (sp__law_pick : P1) (sp__law_allowed : P1) (sp__law_letter : P1) (sp__law_standing : P1) : S1 :=
  dSeq (dAsg (dOp ixD (dCall sp__law_pick (dCons (dVar 0) (dCons (dOp ixD (dVar 1) (dC (.str (Str.ofString "ties")))) dNil))) (dC (.int 0))) (gN 12)) (rd__law_drawn_links_b1_3 sp__law_kinds sp__law_pick sp__law_allowed sp__law_letter sp__law_standing)
def rd__law_drawn_links_b1_1 (sp__law_kinds : P1) (sp__law_pick : P1) (sp__law_allowed : P1) (sp__law_letter : P1) (sp__law_standing : P1) : S1 :=
  dSeq (dAsg (dCall sp__law_pick (dCons (dVar 0) (dCons (dVar 7) dNil))) (gN 11)) (rd__law_drawn_links_b1_2 sp__law_kinds sp__law_pick sp__law_allowed sp__law_letter sp__law_standing)
def rd__law_drawn_links_b1 (sp__law_kinds : P1) (sp__law_pick : P1) (sp__law_allowed : P1) (sp__law_letter : P1) (sp__law_standing : P1) : S1 :=
  dSeq (dAsg (dCall sp__law_pick (dCons (dVar 0) (dCons (dVar 5) dNil))) (gN 10)) (rd__law_drawn_links_b1_1 sp__law_kinds sp__law_pick sp__law_allowed sp__law_letter sp__law_standing)
def rd__law_drawn_links_6 (sp__law_kinds : P1) (sp__law_pick : P1) (sp__law_allowed : P1) (sp__law_letter : P1) (sp__law_standing : P1) : S1 :=
  (dRet (dCall (on1 tupleD) (dCons (dCall (on1 sortedD) (dCons (dVar 8) dNil)) dNil)))
def rd__law_drawn_links_5 (sp__law_kinds : P1) (sp__law_pick : P1) (sp__law_allowed : P1) (sp__law_letter : P1) (sp__law_standing : P1) : S1 :=
  dSeq (dFor (iRg1 (dCons (dVar 3) dNil)) (gN 9) (rd__law_drawn_links_b1 sp__law_kinds sp__law_pick sp__law_allowed sp__law_letter sp__law_standing)) (rd__law_drawn_links_6 sp__law_kinds sp__law_pick sp__law_allowed sp__law_letter sp__law_standing)
def rd__law_drawn_links_4 (sp__law_kinds : P1) (sp__law_pick : P1) (sp__law_allowed : P1) (sp__law_letter : P1) (sp__law_standing : P1) : S1 :=
  dSeq (dAsg (dLst dNil) (gN 8)) (rd__law_drawn_links_5 sp__law_kinds sp__law_pick sp__law_allowed sp__law_letter sp__law_standing)
def rd__law_drawn_links_3 (sp__law_kinds : P1) (sp__law_pick : P1) (sp__law_allowed : P1) (sp__law_letter : P1) (sp__law_standing : P1) : S1 :=
  dSeq (dAsg (dOp addD (dOp addD (dLc (iSeq (dVar 2)) (gN 14) (dTest (dOp ninD (dOp ixD (dVar 14) (dC (.int 1))) (dOp ixD (dVar 1) (dC (.str (Str.ofString "asker")))))) (dOp ixD (dVar 14) (dC (.int 0))) [14]) (dOp ixD (dVar 1) (dC (.str (Str.ofString "badge"))))) (dVar 6)) (gN 7)) (rd__law_drawn_links_4 sp__law_kinds sp__law_pick sp__law_allowed sp__law_letter sp__law_standing)
def rd__law_drawn_links_2 (sp__law_kinds : P1) (sp__law_pick : P1) (sp__law_allowed : P1) (sp__law_letter : P1) (sp__law_standing : P1) : S1 :=
  dSeq (dAsg (dLc (iSeq (dVar 2)) (gN 14) (dTest (dOp inD (dOp ixD (dVar 14) (dC (.int 1))) (dOp ixD (dVar 1) (dC (.str (Str.ofString "group")))))) (dOp ixD (dVar 14) (dC (.int 0))) [14]) (gN 6)) (rd__law_drawn_links_3 sp__law_kinds sp__law_pick sp__law_allowed sp__law_letter sp__law_standing)
def rd__law_drawn_links_1 (sp__law_kinds : P1) (sp__law_pick : P1) (sp__law_allowed : P1) (sp__law_letter : P1) (sp__law_standing : P1) : S1 :=
  dSeq (dAsg (dLc (iSeq (dVar 2)) (gN 14) (dTest (dOp ninD (dOp ixD (dVar 14) (dC (.int 1))) (dOp ixD (dVar 1) (dC (.str (Str.ofString "thing")))))) (dOp ixD (dVar 14) (dC (.int 0))) [14]) (gN 5)) (rd__law_drawn_links_2 sp__law_kinds sp__law_pick sp__law_allowed sp__law_letter sp__law_standing)
def rd__law_drawn_links (sp__law_kinds : P1) (sp__law_pick : P1) (sp__law_allowed : P1) (sp__law_letter : P1) (sp__law_standing : P1) : S1 :=
  dSeq (dAsg (dCall sp__law_kinds (dCons (dVar 2) dNil)) (gN 4)) (rd__law_drawn_links_1 sp__law_kinds sp__law_pick sp__law_allowed sp__law_letter sp__law_standing)
/-! _law_drawn_numbers: 0 _law_d, 1 _law_h, 2 _law_nodes, 3 _law_found, 4 _law_name, 5 _law_kind, 6 _law_tags, 7 _law_field, 8 _law_worth -/
def rd__law_drawn_numbers_b2_1 (sp__law_numbers_of : P1) (sp__law_draw : P1) (sp__law_pick : P1) : S1 :=
  (dDrop (dBM okL appendD (dVar 3) (dCons (dTup (dCons (dVar 4) (dCons (dVar 7) (dCons (dVar 8) dNil)))) dNil)))
def rd__law_drawn_numbers_b2 (sp__law_numbers_of : P1) (sp__law_draw : P1) (sp__law_pick : P1) : S1 :=
  dSeq (dAsg (dIf (dTest (dOp gtD (dCall sp__law_draw (dCons (dVar 0) (dCons (dC (.int 5)) dNil))) (dC (.int 0)))) (dCall sp__law_draw (dCons (dVar 0) (dCons (dC (.int 6)) dNil))) (dCall sp__law_pick (dCons (dVar 0) (dCons (dLst (dCons (dC (.int 9999)) (dCons (dC (.int 9998)) (dCons (dOp addD (dC (.int 9000)) (dCall sp__law_draw (dCons (dVar 0) (dCons (dC (.int 900)) dNil)))) dNil)))) dNil)))) (gN 8)) (rd__law_drawn_numbers_b2_1 sp__law_numbers_of sp__law_draw sp__law_pick)
def rd__law_drawn_numbers_b1 (sp__law_numbers_of : P1) (sp__law_draw : P1) (sp__law_pick : P1) : S1 :=
  (dFor (iSeq (dCall sp__law_numbers_of (dCons (dVar 1) (dCons (dVar 5) dNil)))) (gN 7) (rd__law_drawn_numbers_b2 sp__law_numbers_of sp__law_draw sp__law_pick))
def rd__law_drawn_numbers_2 (sp__law_numbers_of : P1) (sp__law_draw : P1) (sp__law_pick : P1) : S1 :=
  (dRet (dCall (on1 tupleD) (dCons (dCall (on1 sortedD) (dCons (dVar 3) dNil)) dNil)))
def rd__law_drawn_numbers_1 (sp__law_numbers_of : P1) (sp__law_draw : P1) (sp__law_pick : P1) : S1 :=
  dSeq (dFor (iSeq (dVar 2)) (gTp 3 (gCn (gN 4) (gCn (gN 5) (gCn (gN 6) gNl)))) (rd__law_drawn_numbers_b1 sp__law_numbers_of sp__law_draw sp__law_pick)) (rd__law_drawn_numbers_2 sp__law_numbers_of sp__law_draw sp__law_pick)
def rd__law_drawn_numbers (sp__law_numbers_of : P1) (sp__law_draw : P1) (sp__law_pick : P1) : S1 :=
  dSeq (dAsg (dLst dNil) (gN 3)) (rd__law_drawn_numbers_1 sp__law_numbers_of sp__law_draw sp__law_pick)
/-! _law_drawn_sight: 0 _law_d, 1 _law_h, 2 _law_world_here, 3 _law_share, 4 _law_whole, 5 _law_closed, 6 _law_links, 7 _law_tags, 8 _law_numbers, 9 _law_row -/
def rd__law_drawn_sight_5 (sp__law_full_sight : P1) (sp__law_draw : P1) : S1 :=
  (dRet (dTup (dCons (dOp ixD (dVar 4) (dC (.int 0))) (dCons (dVar 6) (dCons (dVar 5) (dCons (dVar 7) (dCons (dVar 8) dNil)))))))
def rd__law_drawn_sight_4 (sp__law_full_sight : P1) (sp__law_draw : P1) : S1 :=
  dSeq (dAsg (dCall (on1 tupleD) (dCons (dLc (iSeq (dOp ixD (dVar 4) (dC (.int 4)))) (gN 9) (dTest (dOp gtD (dCall sp__law_draw (dCons (dVar 0) (dCons (dVar 3) dNil))) (dC (.int 0)))) (dVar 9) [9]) dNil)) (gN 8)) (rd__law_drawn_sight_5 sp__law_full_sight sp__law_draw)
def rd__law_drawn_sight_3 (sp__law_full_sight : P1) (sp__law_draw : P1) : S1 :=
  dSeq (dAsg (dCall (on1 tupleD) (dCons (dLc (iSeq (dOp ixD (dVar 4) (dC (.int 3)))) (gN 9) (dTest (dOp gtD (dCall sp__law_draw (dCons (dVar 0) (dCons (dVar 3) dNil))) (dC (.int 0)))) (dVar 9) [9]) dNil)) (gN 7)) (rd__law_drawn_sight_4 sp__law_full_sight sp__law_draw)
def rd__law_drawn_sight_2 (sp__law_full_sight : P1) (sp__law_draw : P1) : S1 :=
  dSeq (dAsg (dCall (on1 tupleD) (dCons (dLc (iSeq (dOp ixD (dVar 4) (dC (.int 1)))) (gN 9) (dOrT (dTest (dOp inD (dSl (dVar 9) dNoPart (dPart (dC (.int 2)))) (dVar 5))) (dTest (dOp gtD (dCall sp__law_draw (dCons (dVar 0) (dCons (dVar 3) dNil))) (dC (.int 0))))) (dVar 9) [9]) dNil)) (gN 6)) (rd__law_drawn_sight_3 sp__law_full_sight sp__law_draw)
def rd__law_drawn_sight_1 (sp__law_full_sight : P1) (sp__law_draw : P1) : S1 :=
  dSeq (dAsg (dCall (on1 tupleD) (dCons (dLc (iSeq (dOp ixD (dVar 4) (dC (.int 2)))) (gN 9) (dTest (dOp gtD (dCall sp__law_draw (dCons (dVar 0) (dCons (dVar 3) dNil))) (dC (.int 0)))) (dVar 9) [9]) dNil)) (gN 5)) (rd__law_drawn_sight_2 sp__law_full_sight sp__law_draw)
def rd__law_drawn_sight (sp__law_full_sight : P1) (sp__law_draw : P1) : S1 :=
  dSeq (dAsg (dCall sp__law_full_sight (dCons (dVar 1) (dCons (dVar 2) dNil))) (gN 4)) (rd__law_drawn_sight_1 sp__law_full_sight sp__law_draw)
/-! _law_plan: 0 _law_d, 1 _law_pool_here, 2 _law_rich, 3 _law_h, 4 _law_ends, 5 _law_marks_here, 6 _law_k -/
def rd__law_plan_18 (sp__law_draw : P1) (sp__law_pop : P1) (sp__law_some : P1) (sp__law_plan_ties : P1) (sp__law_marks : P1) (sp__law_plan_tests : P1) (sp__law_pick : P1) : S1 :=
  (dRet (dVar 3))
def rd__law_plan_17 (sp__law_draw : P1) (sp__law_pop : P1) (sp__law_some : P1) (sp__law_plan_ties : P1) (sp__law_marks : P1) (sp__law_plan_tests : P1) (sp__law_pick : P1) : S1 :=
  dSeq (dIfS (dAndT (dTest (dOp gtD (dCall (on1 lenD) (dCons (dVar 5) dNil)) (dC (.int 0)))) (dTest (dOp eqD (dCall sp__law_draw (dCons (dVar 0) (dCons (dC (.int 3)) dNil))) (dC (.int 0))))) (dAsg (dLst (dCons (dTup (dCons (dOp ixD (dCall sp__law_pick (dCons (dVar 0) (dCons (dOp ixD (dVar 3) (dC (.str (Str.ofString "ties")))) dNil))) (dC (.int 0))) (dCons (dCall sp__law_plan_tests (dCons (dVar 0) (dCons (dVar 5) dNil))) (dCons (dCall sp__law_plan_tests (dCons (dVar 0) (dCons (dVar 5) dNil))) dNil)))) dNil)) (gSb (dVar 3) (dC (.str (Str.ofString "nevers"))) setD)) dNext) (rd__law_plan_18 sp__law_draw sp__law_pop sp__law_some sp__law_plan_ties sp__law_marks sp__law_plan_tests sp__law_pick)
def rd__law_plan_16 (sp__law_draw : P1) (sp__law_pop : P1) (sp__law_some : P1) (sp__law_plan_ties : P1) (sp__law_marks : P1) (sp__law_plan_tests : P1) (sp__law_pick : P1) : S1 :=
  dSeq (dAsg (dCall sp__law_marks (dCons (dVar 3) dNil)) (gN 5)) (rd__law_plan_17 sp__law_draw sp__law_pop sp__law_some sp__law_plan_ties sp__law_marks sp__law_plan_tests sp__law_pick)
def rd__law_plan_15 (sp__law_draw : P1) (sp__law_pop : P1) (sp__law_some : P1) (sp__law_plan_ties : P1) (sp__law_marks : P1) (sp__law_plan_tests : P1) (sp__law_pick : P1) : S1 :=
  dSeq (dAsg (dLst dNil) (gSb (dVar 3) (dC (.str (Str.ofString "nevers"))) setD)) (rd__law_plan_16 sp__law_draw sp__law_pop sp__law_some sp__law_plan_ties sp__law_marks sp__law_plan_tests sp__law_pick)
def rd__law_plan_14 (sp__law_draw : P1) (sp__law_pop : P1) (sp__law_some : P1) (sp__law_plan_ties : P1) (sp__law_marks : P1) (sp__law_plan_tests : P1) (sp__law_pick : P1) : S1 :=
  dSeq (dAsg (dCall sp__law_plan_ties (dCons (dVar 0) (dCons (dVar 3) (dCons (dVar 1) (dCons (dVar 2) dNil))))) (gSb (dVar 3) (dC (.str (Str.ofString "ties"))) setD)) (rd__law_plan_15 sp__law_draw sp__law_pop sp__law_some sp__law_plan_ties sp__law_marks sp__law_plan_tests sp__law_pick)
def rd__law_plan_13 (sp__law_draw : P1) (sp__law_pop : P1) (sp__law_some : P1) (sp__law_plan_ties : P1) (sp__law_marks : P1) (sp__law_plan_tests : P1) (sp__law_pick : P1) : S1 :=
  dSeq (dAsg (dLc (iRg1 (dCons (dCall sp__law_draw (dCons (dVar 0) (dCons (dC (.int 2)) dNil))) dNil)) (gN 6) dYes (dCall sp__law_pop (dCons (dVar 0) (dCons (dVar 1) dNil))) [6]) (gSb (dVar 3) (dC (.str (Str.ofString "duty"))) setD)) (rd__law_plan_14 sp__law_draw sp__law_pop sp__law_some sp__law_plan_ties sp__law_marks sp__law_plan_tests sp__law_pick)
def rd__law_plan_12 (sp__law_draw : P1) (sp__law_pop : P1) (sp__law_some : P1) (sp__law_plan_ties : P1) (sp__law_marks : P1) (sp__law_plan_tests : P1) (sp__law_pick : P1) : S1 :=
  dSeq (dAsg (dLc (iRg1 (dCons (dOp addD (dC (.int 1)) (dCall sp__law_draw (dCons (dVar 0) (dCons (dC (.int 2)) dNil)))) dNil)) (gN 6) dYes (dCall sp__law_pop (dCons (dVar 0) (dCons (dVar 1) dNil))) [6]) (gSb (dVar 3) (dC (.str (Str.ofString "action"))) setD)) (rd__law_plan_13 sp__law_draw sp__law_pop sp__law_some sp__law_plan_ties sp__law_marks sp__law_plan_tests sp__law_pick)
def rd__law_plan_11 (sp__law_draw : P1) (sp__law_pop : P1) (sp__law_some : P1) (sp__law_plan_ties : P1) (sp__law_marks : P1) (sp__law_plan_tests : P1) (sp__law_pick : P1) : S1 :=
  dSeq (dAsg (dLc (iRg1 (dCons (dCall sp__law_draw (dCons (dVar 0) (dCons (dOp addD (dC (.int 1)) (dOp fdivD (dVar 2) (dC (.int 2)))) dNil))) dNil)) (gN 6) dYes (dCall sp__law_pop (dCons (dVar 0) (dCons (dVar 1) dNil))) [6]) (gSb (dVar 3) (dC (.str (Str.ofString "asked"))) setD)) (rd__law_plan_12 sp__law_draw sp__law_pop sp__law_some sp__law_plan_ties sp__law_marks sp__law_plan_tests sp__law_pick)
def rd__law_plan_10 (sp__law_draw : P1) (sp__law_pop : P1) (sp__law_some : P1) (sp__law_plan_ties : P1) (sp__law_marks : P1) (sp__law_plan_tests : P1) (sp__law_pick : P1) : S1 :=
  dSeq (dAsg (dLc (iRg1 (dCons (dCall sp__law_draw (dCons (dVar 0) (dCons (dC (.int 2)) dNil))) dNil)) (gN 6) dYes (dCall sp__law_pop (dCons (dVar 0) (dCons (dVar 1) dNil))) [6]) (gSb (dVar 3) (dC (.str (Str.ofString "flag"))) setD)) (rd__law_plan_11 sp__law_draw sp__law_pop sp__law_some sp__law_plan_ties sp__law_marks sp__law_plan_tests sp__law_pick)
def rd__law_plan_9 (sp__law_draw : P1) (sp__law_pop : P1) (sp__law_some : P1) (sp__law_plan_ties : P1) (sp__law_marks : P1) (sp__law_plan_tests : P1) (sp__law_pick : P1) : S1 :=
  dSeq (dAsg (dLc (iRg1 (dCons (dCall sp__law_draw (dCons (dVar 0) (dCons (dOp addD (dC (.int 1)) (dVar 2)) dNil))) dNil)) (gN 6) dYes (dTup (dCons (dCall sp__law_pop (dCons (dVar 0) (dCons (dVar 1) dNil))) (dCons (dCall (on1 tupleD) (dCons (dVar 4) dNil)) dNil))) [6]) (gSb (dVar 3) (dC (.str (Str.ofString "numbers"))) setD)) (rd__law_plan_10 sp__law_draw sp__law_pop sp__law_some sp__law_plan_ties sp__law_marks sp__law_plan_tests sp__law_pick)
def rd__law_plan_8 (sp__law_draw : P1) (sp__law_pop : P1) (sp__law_some : P1) (sp__law_plan_ties : P1) (sp__law_marks : P1) (sp__law_plan_tests : P1) (sp__law_pick : P1) : S1 :=
  dSeq (dAsg (dSl (dOp ixD (dVar 3) (dC (.str (Str.ofString "tags")))) dNoPart (dPart (dC (.int 4)))) (gSb (dVar 3) (dC (.str (Str.ofString "tags"))) setD)) (rd__law_plan_9 sp__law_draw sp__law_pop sp__law_some sp__law_plan_ties sp__law_marks sp__law_plan_tests sp__law_pick)
def rd__law_plan_7 (sp__law_draw : P1) (sp__law_pop : P1) (sp__law_some : P1) (sp__law_plan_ties : P1) (sp__law_marks : P1) (sp__law_plan_tests : P1) (sp__law_pick : P1) : S1 :=
  dSeq (dAsg (dOp addD (dOp ixD (dVar 3) (dC (.str (Str.ofString "tags")))) (dLc (iRg1 (dCons (dCall sp__law_draw (dCons (dVar 0) (dCons (dOp addD (dC (.int 2)) (dVar 2)) dNil))) dNil)) (gN 6) dYes (dTup (dCons (dCall sp__law_pop (dCons (dVar 0) (dCons (dVar 1) dNil))) (dCons (dCall (on1 tupleD) (dCons (dCall sp__law_some (dCons (dVar 0) (dCons (dVar 4) (dCons (dC (.int 1)) dNil)))) dNil)) dNil))) [6])) (gSb (dVar 3) (dC (.str (Str.ofString "tags"))) setD)) (rd__law_plan_8 sp__law_draw sp__law_pop sp__law_some sp__law_plan_ties sp__law_marks sp__law_plan_tests sp__law_pick)
def rd__law_plan_6 (sp__law_draw : P1) (sp__law_pop : P1) (sp__law_some : P1) (sp__law_plan_ties : P1) (sp__law_marks : P1) (sp__law_plan_tests : P1) (sp__law_pick : P1) : S1 :=
  dSeq (dAsg (dOp addD (dOp ixD (dVar 3) (dC (.str (Str.ofString "asker")))) (dOp ixD (dVar 3) (dC (.str (Str.ofString "thing"))))) (gN 4)) (rd__law_plan_7 sp__law_draw sp__law_pop sp__law_some sp__law_plan_ties sp__law_marks sp__law_plan_tests sp__law_pick)
def rd__law_plan_5 (sp__law_draw : P1) (sp__law_pop : P1) (sp__law_some : P1) (sp__law_plan_ties : P1) (sp__law_marks : P1) (sp__law_plan_tests : P1) (sp__law_pick : P1) : S1 :=
  dSeq (dAsg (dLc (iRg1 (dCons (dCall sp__law_draw (dCons (dVar 0) (dCons (dOp addD (dC (.int 1)) (dVar 2)) dNil))) dNil)) (gN 6) dYes (dTup (dCons (dCall sp__law_pop (dCons (dVar 0) (dCons (dVar 1) dNil))) (dCons (dCall (on1 tupleD) (dCons (dCall sp__law_some (dCons (dVar 0) (dCons (dOp ixD (dVar 3) (dC (.str (Str.ofString "group")))) (dCons (dC (.int 1)) dNil)))) dNil)) dNil))) [6]) (gSb (dVar 3) (dC (.str (Str.ofString "tags"))) setD)) (rd__law_plan_6 sp__law_draw sp__law_pop sp__law_some sp__law_plan_ties sp__law_marks sp__law_plan_tests sp__law_pick)
def rd__law_plan_4 (sp__law_draw : P1) (sp__law_pop : P1) (sp__law_some : P1) (sp__law_plan_ties : P1) (sp__law_marks : P1) (sp__law_plan_tests : P1) (sp__law_pick : P1) : S1 :=
  dSeq (dAsg (dLc (iRg1 (dCons (dCall sp__law_draw (dCons (dVar 0) (dCons (dOp addD (dC (.int 1)) (dOp fdivD (dVar 2) (dC (.int 2)))) dNil))) dNil)) (gN 6) dYes (dCall sp__law_pop (dCons (dVar 0) (dCons (dVar 1) dNil))) [6]) (gSb (dVar 3) (dC (.str (Str.ofString "badge"))) setD)) (rd__law_plan_5 sp__law_draw sp__law_pop sp__law_some sp__law_plan_ties sp__law_marks sp__law_plan_tests sp__law_pick)
def rd__law_plan_3 (sp__law_draw : P1) (sp__law_pop : P1) (sp__law_some : P1) (sp__law_plan_ties : P1) (sp__law_marks : P1) (sp__law_plan_tests : P1) (sp__law_pick : P1) : S1 :=
  dSeq (dAsg (dLc (iRg1 (dCons (dOp addD (dC (.int 1)) (dCall sp__law_draw (dCons (dVar 0) (dCons (dOp addD (dC (.int 1)) (dOp fdivD (dVar 2) (dC (.int 2)))) dNil)))) dNil)) (gN 6) dYes (dCall sp__law_pop (dCons (dVar 0) (dCons (dVar 1) dNil))) [6]) (gSb (dVar 3) (dC (.str (Str.ofString "thing"))) setD)) (rd__law_plan_4 sp__law_draw sp__law_pop sp__law_some sp__law_plan_ties sp__law_marks sp__law_plan_tests sp__law_pick)
def rd__law_plan_2 (sp__law_draw : P1) (sp__law_pop : P1) (sp__law_some : P1) (sp__law_plan_ties : P1) (sp__law_marks : P1) (sp__law_plan_tests : P1) (sp__law_pick : P1) : S1 :=
  dSeq (dAsg (dLc (iRg1 (dCons (dOp addD (dC (.int 1)) (dCall sp__law_draw (dCons (dVar 0) (dCons (dOp addD (dC (.int 1)) (dOp fdivD (dVar 2) (dC (.int 2)))) dNil)))) dNil)) (gN 6) dYes (dCall sp__law_pop (dCons (dVar 0) (dCons (dVar 1) dNil))) [6]) (gSb (dVar 3) (dC (.str (Str.ofString "group"))) setD)) (rd__law_plan_3 sp__law_draw sp__law_pop sp__law_some sp__law_plan_ties sp__law_marks sp__law_plan_tests sp__law_pick)
def rd__law_plan_1 (sp__law_draw : P1) (sp__law_pop : P1) (sp__law_some : P1) (sp__law_plan_ties : P1) (sp__law_marks : P1) (sp__law_plan_tests : P1) (sp__law_pick : P1) : S1 :=
  dSeq (dAsg (dLc (iRg1 (dCons (dOp addD (dC (.int 1)) (dCall sp__law_draw (dCons (dVar 0) (dCons (dOp addD (dC (.int 1)) (dOp fdivD (dVar 2) (dC (.int 2)))) dNil)))) dNil)) (gN 6) dYes (dCall sp__law_pop (dCons (dVar 0) (dCons (dVar 1) dNil))) [6]) (gSb (dVar 3) (dC (.str (Str.ofString "asker"))) setD)) (rd__law_plan_2 sp__law_draw sp__law_pop sp__law_some sp__law_plan_ties sp__law_marks sp__law_plan_tests sp__law_pick)
def rd__law_plan (sp__law_draw : P1) (sp__law_pop : P1) (sp__law_some : P1) (sp__law_plan_ties : P1) (sp__law_marks : P1) (sp__law_plan_tests : P1) (sp__law_pick : P1) : S1 :=
  dSeq (dAsg dDic0 (gN 3)) (rd__law_plan_1 sp__law_draw sp__law_pop sp__law_some sp__law_plan_ties sp__law_marks sp__law_plan_tests sp__law_pick)
/-! _law_world: 0 _law_d, 1 _law_h, 2 _law_pool_here, 3 _law_many, 4 _law_links, 5 _law_nodes -/
def rd__law_world_1 (sp__law_drawn_nodes : P1) (sp__law_node_names : P1) (sp__law_drawn_numbers : P1) (sp__law_drawn_links : P1) : S1 :=
  (dRet (dTup (dCons (dVar 5) (dCons (dCall sp__law_drawn_links (dCons (dVar 0) (dCons (dVar 1) (dCons (dVar 5) (dCons (dVar 4) dNil))))) (dCons (dCall sp__law_drawn_numbers (dCons (dVar 0) (dCons (dVar 1) (dCons (dVar 5) dNil)))) dNil)))))
def rd__law_world (sp__law_drawn_nodes : P1) (sp__law_node_names : P1) (sp__law_drawn_numbers : P1) (sp__law_drawn_links : P1) : S1 :=
  dSeq (dAsg (dCall sp__law_drawn_nodes (dCons (dVar 0) (dCons (dVar 1) (dCons (dCall sp__law_node_names (dCons (dVar 0) (dCons (dVar 2) (dCons (dCall (on2 max2D) (dCons (dC (.int 3)) (dCons (dVar 3) dNil))) dNil)))) dNil)))) (gN 5)) (rd__law_world_1 sp__law_drawn_nodes sp__law_node_names sp__law_drawn_numbers sp__law_drawn_links)
/-! _law_one_sight: 0 _law_d, 1 _law_h, 2 _law_pool_here, 3 _law_many, 4 _law_world_here, 5 _law_way, 6 _law_sight -/
def rd__law_one_sight_6 (sp__law_rare : P1) (sp__law_draw : P1) (sp__law_world : P1) (sp__law_full_sight : P1) (sp__law_drawn_sight : P1) : S1 :=
  (dRet (dIf (dTest (dOp gtD (dVar 5) (dC (.int 2)))) (dVar 6) (dTup (dCons (dOp ixD (dVar 6) (dC (.int 0))) (dCons (dTup dNil) (dCons (dTup dNil) (dCons (dTup dNil) (dCons (dTup dNil) dNil))))))))
def rd__law_one_sight_5 (sp__law_rare : P1) (sp__law_draw : P1) (sp__law_world : P1) (sp__law_full_sight : P1) (sp__law_drawn_sight : P1) : S1 :=
  dSeq (dIfS (dTest (dOp eqD (dVar 5) (dC (.int 1)))) (dRet (dTup (dCons (dOp ixD (dVar 6) (dC (.int 0))) (dCons (dOp ixD (dVar 6) (dC (.int 1))) (dCons (dTup dNil) (dCons (dOp ixD (dVar 6) (dC (.int 3))) (dCons (dOp ixD (dVar 6) (dC (.int 4))) dNil))))))) dNext) (rd__law_one_sight_6 sp__law_rare sp__law_draw sp__law_world sp__law_full_sight sp__law_drawn_sight)
def rd__law_one_sight_4 (sp__law_rare : P1) (sp__law_draw : P1) (sp__law_world : P1) (sp__law_full_sight : P1) (sp__law_drawn_sight : P1) : S1 :=
  dSeq (dAsg (dCall sp__law_drawn_sight (dCons (dVar 0) (dCons (dVar 1) (dCons (dVar 4) (dCons (dOp addD (dC (.int 2)) (dCall sp__law_draw (dCons (dVar 0) (dCons (dC (.int 3)) dNil)))) dNil))))) (gN 6)) (rd__law_one_sight_5 sp__law_rare sp__law_draw sp__law_world sp__law_full_sight sp__law_drawn_sight)
def rd__law_one_sight_3 (sp__law_rare : P1) (sp__law_draw : P1) (sp__law_world : P1) (sp__law_full_sight : P1) (sp__law_drawn_sight : P1) : S1 :=
  dSeq (dIfS (dTest (dOp eqD (dVar 5) (dC (.int 0)))) (dRet (dCall sp__law_full_sight (dCons (dVar 1) (dCons (dVar 4) dNil)))) dNext) (rd__law_one_sight_4 sp__law_rare sp__law_draw sp__law_world sp__law_full_sight sp__law_drawn_sight)
def rd__law_one_sight_2 (sp__law_rare : P1) (sp__law_draw : P1) (sp__law_world : P1) (sp__law_full_sight : P1) (sp__law_drawn_sight : P1) : S1 :=
  dSeq (dAsg (dCall sp__law_draw (dCons (dVar 0) (dCons (dC (.int 7)) dNil))) (gN 5)) (rd__law_one_sight_3 sp__law_rare sp__law_draw sp__law_world sp__law_full_sight sp__law_drawn_sight)
def rd__law_one_sight_1 (sp__law_rare : P1) (sp__law_draw : P1) (sp__law_world : P1) (sp__law_full_sight : P1) (sp__law_drawn_sight : P1) : S1 :=
  dSeq (dAsg (dCall sp__law_world (dCons (dVar 0) (dCons (dVar 1) (dCons (dVar 2) (dCons (dVar 3) (dCons (dOp mulD (dC (.int 2)) (dVar 3)) dNil)))))) (gN 4)) (rd__law_one_sight_2 sp__law_rare sp__law_draw sp__law_world sp__law_full_sight sp__law_drawn_sight)
def rd__law_one_sight (sp__law_rare : P1) (sp__law_draw : P1) (sp__law_world : P1) (sp__law_full_sight : P1) (sp__law_drawn_sight : P1) : S1 :=
  dSeq (dAsg (dIf (dTru (dCall sp__law_rare (dCons (dVar 0) (dCons (dC (.int 9)) dNil)))) (dC (.int 20)) (dOp addD (dC (.int 2)) (dCall sp__law_draw (dCons (dVar 0) (dCons (dC (.int 7)) dNil))))) (gN 3)) (rd__law_one_sight_1 sp__law_rare sp__law_draw sp__law_world sp__law_full_sight sp__law_drawn_sight)
/-! law: 0 _law_script, 1 _law_d, 2 _law_pool_here, 3 _law_h, 4 _law_sights, 5 _law_first, 6 _law_turn, 7 _law_k, 8 _law_due, 9 _law_given, 10 _law_place -/
def rd_law_b1_4 (sp__law_begin : P1) (sp__law_pool : P1) (sp__law_plan : P1) (sp__law_draw : P1) (sp__law_one_sight : P1) (sp__law_lesser : P1) (sp_weaker : P1) : S1 :=
  (dIfS (dTest (dOp gtD (dCall (on1 lenD) (dCons (dVar 8) dNil)) (dC (.int 0)))) (dSeq (dAsg (dCall sp__law_draw (dCons (dVar 1) (dCons (dCall (on1 lenD) (dCons (dVar 8) dNil)) dNil))) (gN 10))
  (dSeq (dIfS (dTest (dOp neD (dCall (on1 reprD) (dCons (dOp ixD (dVar 9) (dVar 10)) dNil)) (dCall (on1 reprD) (dCons (dOp ixD (dVar 8) (dVar 10)) dNil)))) (dRet (dC (.bool false))) dNext)
  (dAsg (dOp ixD (dVar 8) (dVar 10)) (gSb (dVar 4) (dVar 7) setD)))) dNext)
def rd_law_b1_3 (sp__law_begin : P1) (sp__law_pool : P1) (sp__law_plan : P1) (sp__law_draw : P1) (sp__law_one_sight : P1) (sp__law_lesser : P1) (sp_weaker : P1) : S1 :=
  dSeq (dIfS (dOrT (dNotT (dTru (dCall (on2 isiD) (dCons (dVar 9) (dCons (dC (.ty "tuple")) dNil))))) (dTest (dOp neD (dCall (on1 listD) (dCons (dVar 9) dNil)) (dVar 8)))) (dRet (dC (.bool false))) dNext) (rd_law_b1_4 sp__law_begin sp__law_pool sp__law_plan sp__law_draw sp__law_one_sight sp__law_lesser sp_weaker)
def rd_law_b1_2 (sp__law_begin : P1) (sp__law_pool : P1) (sp__law_plan : P1) (sp__law_draw : P1) (sp__law_one_sight : P1) (sp__law_lesser : P1) (sp_weaker : P1) : S1 :=
  dSeq (dAsg (dCall sp_weaker (dCons (dOp ixD (dVar 4) (dVar 7)) dNil)) (gN 9)) (rd_law_b1_3 sp__law_begin sp__law_pool sp__law_plan sp__law_draw sp__law_one_sight sp__law_lesser sp_weaker)
def rd_law_b1_1 (sp__law_begin : P1) (sp__law_pool : P1) (sp__law_plan : P1) (sp__law_draw : P1) (sp__law_one_sight : P1) (sp__law_lesser : P1) (sp_weaker : P1) : S1 :=
  dSeq (dAsg (dCall sp__law_lesser (dCons (dOp ixD (dVar 4) (dVar 7)) dNil)) (gN 8)) (rd_law_b1_2 sp__law_begin sp__law_pool sp__law_plan sp__law_draw sp__law_one_sight sp__law_lesser sp_weaker)
def rd_law_b1 (sp__law_begin : P1) (sp__law_pool : P1) (sp__law_plan : P1) (sp__law_draw : P1) (sp__law_one_sight : P1) (sp__law_lesser : P1) (sp_weaker : P1) : S1 :=
  dSeq (dAsg (dOp andD (dVar 6) (dC (.int 1))) (gN 7)) (rd_law_b1_1 sp__law_begin sp__law_pool sp__law_plan sp__law_draw sp__law_one_sight sp__law_lesser sp_weaker)
def rd_law_6 (sp__law_begin : P1) (sp__law_pool : P1) (sp__law_plan : P1) (sp__law_draw : P1) (sp__law_one_sight : P1) (sp__law_lesser : P1) (sp_weaker : P1) : S1 :=
  (dRet (dOp eqD (dCall (on1 listD) (dCons (dCall sp_weaker (dCons (dVar 5) dNil)) dNil)) (dCall sp__law_lesser (dCons (dVar 5) dNil))))
def rd_law_5 (sp__law_begin : P1) (sp__law_pool : P1) (sp__law_plan : P1) (sp__law_draw : P1) (sp__law_one_sight : P1) (sp__law_lesser : P1) (sp_weaker : P1) : S1 :=
  dSeq (dFor (iRg1 (dCons (dOp addD (dC (.int 2)) (dCall sp__law_draw (dCons (dVar 1) (dCons (dC (.int 10)) dNil)))) dNil)) (gN 6) (rd_law_b1 sp__law_begin sp__law_pool sp__law_plan sp__law_draw sp__law_one_sight sp__law_lesser sp_weaker)) (rd_law_6 sp__law_begin sp__law_pool sp__law_plan sp__law_draw sp__law_one_sight sp__law_lesser sp_weaker)
def rd_law_4 (sp__law_begin : P1) (sp__law_pool : P1) (sp__law_plan : P1) (sp__law_draw : P1) (sp__law_one_sight : P1) (sp__law_lesser : P1) (sp_weaker : P1) : S1 :=
  dSeq (dAsg (dOp ixD (dVar 4) (dC (.int 0))) (gN 5)) (rd_law_5 sp__law_begin sp__law_pool sp__law_plan sp__law_draw sp__law_one_sight sp__law_lesser sp_weaker)
def rd_law_3 (sp__law_begin : P1) (sp__law_pool : P1) (sp__law_plan : P1) (sp__law_draw : P1) (sp__law_one_sight : P1) (sp__law_lesser : P1) (sp_weaker : P1) : S1 :=
  dSeq (dAsg (dLc (iRg1 (dCons (dC (.int 2)) dNil)) (gN 7) dYes (dCall sp__law_one_sight (dCons (dVar 1) (dCons (dVar 3) (dCons (dVar 2) dNil)))) [7]) (gN 4)) (rd_law_4 sp__law_begin sp__law_pool sp__law_plan sp__law_draw sp__law_one_sight sp__law_lesser sp_weaker)
def rd_law_2 (sp__law_begin : P1) (sp__law_pool : P1) (sp__law_plan : P1) (sp__law_draw : P1) (sp__law_one_sight : P1) (sp__law_lesser : P1) (sp_weaker : P1) : S1 :=
  dSeq (dAsg (dCall sp__law_plan (dCons (dVar 1) (dCons (dVar 2) (dCons (dCall sp__law_draw (dCons (dVar 1) (dCons (dC (.int 3)) dNil))) dNil)))) (gN 3)) (rd_law_3 sp__law_begin sp__law_pool sp__law_plan sp__law_draw sp__law_one_sight sp__law_lesser sp_weaker)
def rd_law_1 (sp__law_begin : P1) (sp__law_pool : P1) (sp__law_plan : P1) (sp__law_draw : P1) (sp__law_one_sight : P1) (sp__law_lesser : P1) (sp_weaker : P1) : S1 :=
  dSeq (dAsg (dCall sp__law_pool dNil) (gN 2)) (rd_law_2 sp__law_begin sp__law_pool sp__law_plan sp__law_draw sp__law_one_sight sp__law_lesser sp_weaker)
def rd_law (sp__law_begin : P1) (sp__law_pool : P1) (sp__law_plan : P1) (sp__law_draw : P1) (sp__law_one_sight : P1) (sp__law_lesser : P1) (sp_weaker : P1) : S1 :=
  dSeq (dAsg (dCall sp__law_begin (dCons (dVar 0) dNil)) (gN 1)) (rd_law_1 sp__law_begin sp__law_pool sp__law_plan sp__law_draw sp__law_one_sight sp__law_lesser sp_weaker)
end DL
namespace DL
open PySem PySem.Spec PyProof.Rows L2
def topS (i : Nat) : Stmt := PySem.Challenge.pw_leaveledger_k63_weaker.main.body.getD i (.Pass ⟨0, 0, 0, 0⟩)
structure Blt (mg : Str → Option Value) : Prop where
  n_tuple : mg "tuple" = none
  n_int : mg "int" = none
  n_len : mg "len" = none
  n_abs : mg "abs" = none
  n_list : mg "list" = none
  n_range : mg "range" = none
  n_sorted : mg "sorted" = none
  n_str : mg "str" = none
  n_all : mg "all" = none
  n_max : mg "max" = none
  n_isinstance : mg "isinstance" = none
  n_repr : mg "repr" = none
abbrev s_without : Stmt := topS 1
theorem sc_without : FnScope ["rows", "row", "one"] ["rows", "row"] (defScope s_without) := ⟨rfl, rfl, rfl, by decide +kernel, rfl, by decide +kernel, by decide +kernel⟩
abbrev s__law_begin : Stmt := topS 8
theorem sc__law_begin : FnScope ["_law_script", "_law_cell"] ["_law_script"] (defScope s__law_begin) := ⟨rfl, rfl, rfl, by decide +kernel, rfl, by decide +kernel, by decide +kernel⟩
abbrev s__law_draw : Stmt := topS 9
theorem sc__law_draw : FnScope ["_law_d", "_law_many", "_law_found", "_law_size", "_law_cell"] ["_law_d", "_law_many"] (defScope s__law_draw) := ⟨rfl, rfl, rfl, by decide +kernel, rfl, by decide +kernel, by decide +kernel⟩
abbrev s__law_pool : Stmt := topS 15
theorem sc__law_pool : FnScope ["_law_text"] [] (defScope s__law_pool) := ⟨rfl, rfl, rfl, by decide +kernel, rfl, by decide +kernel, by decide +kernel⟩
abbrev s__law_tags_of : Stmt := topS 16
theorem sc__law_tags_of : FnScope ["_law_h", "_law_kind", "_law_row"] ["_law_h", "_law_kind"] (defScope s__law_tags_of) := ⟨rfl, rfl, rfl, by decide +kernel, rfl, by decide +kernel, by decide +kernel⟩
abbrev s__law_numbers_of : Stmt := topS 17
theorem sc__law_numbers_of : FnScope ["_law_h", "_law_kind", "_law_row"] ["_law_h", "_law_kind"] (defScope s__law_numbers_of) := ⟨rfl, rfl, rfl, by decide +kernel, rfl, by decide +kernel, by decide +kernel⟩
abbrev s__law_marks : Stmt := topS 18
theorem sc__law_marks : FnScope ["_law_h", "_law_row", "_law_kind"] ["_law_h"] (defScope s__law_marks) := ⟨rfl, rfl, rfl, by decide +kernel, rfl, by decide +kernel, by decide +kernel⟩
abbrev s__law_passes : Stmt := topS 23
theorem sc__law_passes : FnScope ["_law_tests", "_law_marks_here", "_law_tag", "_law_truth"] ["_law_tests", "_law_marks_here"] (defScope s__law_passes) := ⟨rfl, rfl, rfl, by decide +kernel, rfl, by decide +kernel, by decide +kernel⟩
abbrev s__law_standing : Stmt := topS 25
theorem sc__law_standing : FnScope ["_law_h", "_law_kinds_here", "_law_name", "_law_kind", "_law_tags"] ["_law_h", "_law_kinds_here", "_law_name"] (defScope s__law_standing) := ⟨rfl, rfl, rfl, by decide +kernel, rfl, by decide +kernel, by decide +kernel⟩
abbrev s__law_letter : Stmt := topS 26
theorem sc__law_letter : FnScope ["_law_h", "_law_kinds_here", "_law_tie", "_law_end", "_law_kind", "_law_tags"] ["_law_h", "_law_kinds_here", "_law_tie", "_law_end"] (defScope s__law_letter) := ⟨rfl, rfl, rfl, by decide +kernel, rfl, by decide +kernel, by decide +kernel⟩
abbrev s__law_kinds : Stmt := topS 27
theorem sc__law_kinds : FnScope ["_law_nodes", "_law_found", "_law_name", "_law_kind", "_law_tags"] ["_law_nodes"] (defScope s__law_kinds) := ⟨rfl, rfl, rfl, by decide +kernel, rfl, by decide +kernel, by decide +kernel⟩
abbrev s__law_lesser : Stmt := topS 34
theorem sc__law_lesser : FnScope ["_law_sight", "_law_found", "_law_part", "_law_row", "_law_rows", "_law_one"] ["_law_sight"] (defScope s__law_lesser) := ⟨rfl, rfl, rfl, by decide +kernel, rfl, by decide +kernel, by decide +kernel⟩
abbrev s_drop_closed : Stmt := topS 2
theorem sc_drop_closed : FnScope ["sight", "pair"] ["sight", "pair"] (defScope s_drop_closed) := ⟨rfl, rfl, rfl, by decide +kernel, rfl, by decide +kernel, by decide +kernel⟩
abbrev s_drop_link : Stmt := topS 3
theorem sc_drop_link : FnScope ["sight", "link"] ["sight", "link"] (defScope s_drop_link) := ⟨rfl, rfl, rfl, by decide +kernel, rfl, by decide +kernel, by decide +kernel⟩
abbrev s_drop_tag : Stmt := topS 4
theorem sc_drop_tag : FnScope ["sight", "row"] ["sight", "row"] (defScope s_drop_tag) := ⟨rfl, rfl, rfl, by decide +kernel, rfl, by decide +kernel, by decide +kernel⟩
abbrev s_drop_number : Stmt := topS 5
theorem sc_drop_number : FnScope ["sight", "row"] ["sight", "row"] (defScope s_drop_number) := ⟨rfl, rfl, rfl, by decide +kernel, rfl, by decide +kernel, by decide +kernel⟩
abbrev s__law_pick : Stmt := topS 10
theorem sc__law_pick : FnScope ["_law_d", "_law_row"] ["_law_d", "_law_row"] (defScope s__law_pick) := ⟨rfl, rfl, rfl, by decide +kernel, rfl, by decide +kernel, by decide +kernel⟩
abbrev s__law_pop : Stmt := topS 11
theorem sc__law_pop : FnScope ["_law_d", "_law_row"] ["_law_d", "_law_row"] (defScope s__law_pop) := ⟨rfl, rfl, rfl, by decide +kernel, rfl, by decide +kernel, by decide +kernel⟩
abbrev s__law_rare : Stmt := topS 12
theorem sc__law_rare : FnScope ["_law_d", "_law_many"] ["_law_d", "_law_many"] (defScope s__law_rare) := ⟨rfl, rfl, rfl, by decide +kernel, rfl, by decide +kernel, by decide +kernel⟩
abbrev s__law_some : Stmt := topS 13
theorem sc__law_some : FnScope ["_law_d", "_law_row", "_law_least", "_law_found", "_law_left", "_law_item"] ["_law_d", "_law_row", "_law_least"] (defScope s__law_some) := ⟨rfl, rfl, rfl, by decide +kernel, rfl, by decide +kernel, by decide +kernel⟩
abbrev s__law_shuffled : Stmt := topS 14
theorem sc__law_shuffled : FnScope ["_law_d", "_law_row", "_law_left", "_law_found", "_law_k"] ["_law_d", "_law_row"] (defScope s__law_shuffled) := ⟨rfl, rfl, rfl, by decide +kernel, rfl, by decide +kernel, by decide +kernel⟩
abbrev s__law_allowed : Stmt := topS 24
theorem sc__law_allowed : FnScope ["_law_h", "_law_standing_here", "_law_letter_here", "_law_rows", "_law_tie", "_law_first", "_law_second", "_law_row", "_law_tag"] ["_law_h", "_law_standing_here", "_law_letter_here"] (defScope s__law_allowed) := ⟨rfl, rfl, rfl, by decide +kernel, rfl, by decide +kernel, by decide +kernel⟩
abbrev s__law_full_sight : Stmt := topS 32
theorem sc__law_full_sight : FnScope ["_law_h", "_law_world_here", "_law_nodes", "_law_closed", "_law_tags", "_law_name", "_law_kind", "_law_marks_here", "_law_tie", "_law_fronts", "_law_ends", "_law_tag"] ["_law_h", "_law_world_here"] (defScope s__law_full_sight) := ⟨rfl, rfl, rfl, by decide +kernel, rfl, by decide +kernel, by decide +kernel⟩
abbrev s_weaker : Stmt := topS 6
theorem sc_weaker : FnScope ["sight", "found", "pair", "link", "row"] ["sight"] (defScope s_weaker) := ⟨rfl, rfl, rfl, by decide +kernel, rfl, by decide +kernel, by decide +kernel⟩
abbrev s__law_plan_ties : Stmt := topS 19
theorem sc__law_plan_ties : FnScope ["_law_d", "_law_h", "_law_pool_here", "_law_rich", "_law_everybody", "_law_rows", "_law_k", "_law_fronts", "_law_ends"] ["_law_d", "_law_h", "_law_pool_here", "_law_rich"] (defScope s__law_plan_ties) := ⟨rfl, rfl, rfl, by decide +kernel, rfl, by decide +kernel, by decide +kernel⟩
abbrev s__law_plan_tests : Stmt := topS 20
theorem sc__law_plan_tests : FnScope ["_law_d", "_law_marks_here", "_law_found", "_law_tag"] ["_law_d", "_law_marks_here"] (defScope s__law_plan_tests) := ⟨rfl, rfl, rfl, by decide +kernel, rfl, by decide +kernel, by decide +kernel⟩
abbrev s__law_node_names : Stmt := topS 22
theorem sc__law_node_names : FnScope ["_law_d", "_law_pool_here", "_law_many", "_law_found", "_law_k"] ["_law_d", "_law_pool_here", "_law_many"] (defScope s__law_node_names) := ⟨rfl, rfl, rfl, by decide +kernel, rfl, by decide +kernel, by decide +kernel⟩
abbrev s__law_drawn_nodes : Stmt := topS 28
theorem sc__law_drawn_nodes : FnScope ["_law_d", "_law_h", "_law_names", "_law_found", "_law_k", "_law_way", "_law_sort", "_law_kind", "_law_tags", "_law_tag"] ["_law_d", "_law_h", "_law_names"] (defScope s__law_drawn_nodes) := ⟨rfl, rfl, rfl, by decide +kernel, rfl, by decide +kernel, by decide +kernel⟩
abbrev s__law_drawn_links : Stmt := topS 29
theorem sc__law_drawn_links : FnScope ["_law_d", "_law_h", "_law_nodes", "_law_many", "_law_kinds_here", "_law_fronts", "_law_groups", "_law_ends", "_law_found", "_law_k", "_law_node", "_law_end", "_law_tie", "_law_link", "_law_row"] ["_law_d", "_law_h", "_law_nodes", "_law_many"] (defScope s__law_drawn_links) := ⟨rfl, rfl, rfl, by decide +kernel, rfl, by decide +kernel, by decide +kernel⟩
abbrev s__law_drawn_numbers : Stmt := topS 30
theorem sc__law_drawn_numbers : FnScope ["_law_d", "_law_h", "_law_nodes", "_law_found", "_law_name", "_law_kind", "_law_tags", "_law_field", "_law_worth"] ["_law_d", "_law_h", "_law_nodes"] (defScope s__law_drawn_numbers) := ⟨rfl, rfl, rfl, by decide +kernel, rfl, by decide +kernel, by decide +kernel⟩
abbrev s__law_drawn_sight : Stmt := topS 33
theorem sc__law_drawn_sight : FnScope ["_law_d", "_law_h", "_law_world_here", "_law_share", "_law_whole", "_law_closed", "_law_links", "_law_tags", "_law_numbers", "_law_row"] ["_law_d", "_law_h", "_law_world_here", "_law_share"] (defScope s__law_drawn_sight) := ⟨rfl, rfl, rfl, by decide +kernel, rfl, by decide +kernel, by decide +kernel⟩
abbrev s__law_plan : Stmt := topS 21
theorem sc__law_plan : FnScope ["_law_d", "_law_pool_here", "_law_rich", "_law_h", "_law_ends", "_law_marks_here", "_law_k"] ["_law_d", "_law_pool_here", "_law_rich"] (defScope s__law_plan) := ⟨rfl, rfl, rfl, by decide +kernel, rfl, by decide +kernel, by decide +kernel⟩
abbrev s__law_world : Stmt := topS 31
theorem sc__law_world : FnScope ["_law_d", "_law_h", "_law_pool_here", "_law_many", "_law_links", "_law_nodes"] ["_law_d", "_law_h", "_law_pool_here", "_law_many", "_law_links"] (defScope s__law_world) := ⟨rfl, rfl, rfl, by decide +kernel, rfl, by decide +kernel, by decide +kernel⟩
abbrev s__law_one_sight : Stmt := topS 35
theorem sc__law_one_sight : FnScope ["_law_d", "_law_h", "_law_pool_here", "_law_many", "_law_world_here", "_law_way", "_law_sight"] ["_law_d", "_law_h", "_law_pool_here"] (defScope s__law_one_sight) := ⟨rfl, rfl, rfl, by decide +kernel, rfl, by decide +kernel, by decide +kernel⟩
abbrev s_law : Stmt := topS 36
theorem sc_law : FnScope ["_law_script", "_law_d", "_law_pool_here", "_law_h", "_law_sights", "_law_first", "_law_turn", "_law_k", "_law_due", "_law_given", "_law_place"] ["_law_script"] (defScope s_law) := ⟨rfl, rfl, rfl, by decide +kernel, rfl, by decide +kernel, by decide +kernel⟩
section
variable {P : Program} {w : World} {K : PySem.W.Frag} {mg : Str → Option Value} {base : Heap}
theorem body_without (B : Blt mg) (f : Addr) (cdv : Value) (A : Around) (outer : List Env) (s : Shared) (H : Hp) (E : XK) (hr : RoomG 0 (A.deeper (envOfC "without" (defScope s_without) s.heap.objs.size f cdv))) :
    DSs (cxOf CX0 P w K mg base ["rows", "row", "one"] "without" (defScope s_without) f cdv A outer s H E).nox (defBody s_without) (rd_without) := by
  have hu := hr.r.units
  have hu5 : (A.deeper (envOfC "without" (defScope s_without) s.heap.objs.size f cdv)).units + 65 < cLine := by have := hr.r.un; omega
  exact (dss_one (ds_ret (de_callTy xd_tuple (by rfl) B.n_tuple (by decide +kernel) (da_cons (de_lc (own := [("one", 2)]) (by rfl) sc_without.nd (di_seq (de_var 0)) (blkOk_by (own := [("one", 2)]) (N := ["rows", "row", "one"]) (sc := defScope s_without) (by decide +kernel)) (fun _ _ _ _ _ => (dg_name 2 (okAtW (by decide)) sc_without.nd rfl (by first | exact Or.inl rfl | exact Or.inr rfl))) (fun _ _ _ _ _ => (dts_one (dt_cmpR (od_ne hu) (de_var 2) (de_var 1) (by rfl)))) (fun _ _ _ _ _ => (de_var 2))) da_nil))))
theorem good_without {sp : P1} (T : TopF K mg "without" "without" s_without ["rows", "row"]) (B : Blt mg) (len : ∀ ds h Q, sp ds h Q → ds.length = 2) (sat : ∀ ds h Q, sp ds h Q → rd_without (endN Q) (startD 3 ds) h) : Good P w K mg base 1 "without" ["rows", "row"] sp :=
  good_ok T sc_without len (body_without B) sat
theorem body__law_begin (B : Blt mg) (f : Addr) (cdv : Value) (A : Around) (outer : List Env) (s : Shared) (H : Hp) (E : XK) (hr : RoomG 0 (A.deeper (envOfC "_law_begin" (defScope s__law_begin) s.heap.objs.size f cdv))) :
    DSs (cxOf CX0 P w K mg base ["_law_script", "_law_cell"] "_law_begin" (defScope s__law_begin) f cdv A outer s H E).nox (defBody s__law_begin) (rd__law_begin) := by
  have hu := hr.r.units
  have hu5 : (A.deeper (envOfC "_law_begin" (defScope s__law_begin) s.heap.objs.size f cdv)).units + 65 < cLine := by have := hr.r.un; omega
  exact (dss_one (ds_ret (de_lst (da_cons (de_lc (own := [("_law_cell", 1)]) (by rfl) sc__law_begin.nd (di_seq (de_var 0)) (blkOk_by (own := [("_law_cell", 1)]) (N := ["_law_script", "_law_cell"]) (sc := defScope s__law_begin) (by decide +kernel)) (fun _ _ _ _ _ => (dg_name 1 (okAtW (by decide)) sc__law_begin.nd rfl (by first | exact Or.inl rfl | exact Or.inr rfl))) (fun _ _ _ _ _ => dts_nil) (fun _ _ _ _ _ => (de_callTy xd_int (by rfl) B.n_int (by decide +kernel) (da_cons (de_var 1) da_nil)))) (da_cons de_int (da_cons de_int (da_cons de_int (da_cons de_int da_nil))))))))
theorem good__law_begin {sp : P1} (T : TopF K mg "_law_begin" "_law_begin" s__law_begin ["_law_script"]) (B : Blt mg) (len : ∀ ds h Q, sp ds h Q → ds.length = 1) (sat : ∀ ds h Q, sp ds h Q → rd__law_begin (endN Q) (startD 2 ds) h) : Good P w K mg base 1 "_law_begin" ["_law_script"] sp :=
  good_ok T sc__law_begin len (body__law_begin B) sat
theorem body__law_draw (B : Blt mg) (f : Addr) (cdv : Value) (A : Around) (outer : List Env) (s : Shared) (H : Hp) (E : XK) (hr : RoomG 0 (A.deeper (envOfC "_law_draw" (defScope s__law_draw) s.heap.objs.size f cdv))) :
    DSs (cxOf CX0 P w K mg base ["_law_d", "_law_many", "_law_found", "_law_size", "_law_cell"] "_law_draw" (defScope s__law_draw) f cdv A outer s H E).nox (defBody s__law_draw) (rd__law_draw) := by
  have hu := hr.r.units
  have hu5 : (A.deeper (envOfC "_law_draw" (defScope s__law_draw) s.heap.objs.size f cdv)).units + 65 < cLine := by have := hr.r.un; omega
  exact (dss_cons (ds_if (dt_cmpR od_gt (de_ix hu (de_var 0) de_int (fun _ _ => rfl)) de_int (by rfl)) (dss_cons (ds_set 2 sc__law_draw.nd rfl (by first | exact Or.inl rfl | exact Or.inr rfl) (de_ix hu (de_var 0) de_int (fun _ _ => rfl)))
    (dss_cons (ds_asg (de_op od_fdiv (de_var 2) (de_var 1)) (dg_sub hu (de_var 0) de_int))
    (dss_one (ds_ret (de_op od_mod (de_callTy xd_int (by rfl) B.n_int (by decide +kernel) (da_cons (de_var 2) da_nil)) (de_var 1)))))) dss_nil)
    (dss_cons (ds_set 3 sc__law_draw.nd rfl (by first | exact Or.inl rfl | exact Or.inr rfl) de_int)
    (dss_cons (ds_if (dt_cmpR od_lt (de_ix hu (de_var 0) de_int (fun _ _ => rfl)) (de_callB xd_len (by rfl) B.n_len (by decide +kernel) (da_cons (de_ix hu (de_var 0) de_int (fun _ _ => rfl)) da_nil)) (by rfl)) (dss_cons (ds_set 4 sc__law_draw.nd rfl (by first | exact Or.inl rfl | exact Or.inr rfl) (de_ix hu (de_ix hu (de_var 0) de_int (fun _ _ => rfl)) (de_ix hu (de_var 0) de_int (fun _ _ => rfl)) (fun _ _ => rfl)))
    (dss_one (ds_set 3 sc__law_draw.nd rfl (by first | exact Or.inl rfl | exact Or.inr rfl) (de_op od_add (de_op od_mul de_int (de_callB xd_abs (by rfl) B.n_abs (by decide +kernel) (da_cons (de_var 4) da_nil))) (de_callTy xd_int (by rfl) B.n_int (by decide +kernel) (da_cons (de_cmpR od_lt (de_var 4) de_int (by rfl)) da_nil)))))) dss_nil)
    (dss_cons (ds_augS hu (de_var 0) de_int de_int xd_iadd)
    (dss_cons (ds_if (dt_cmpR od_ge (de_var 3) (de_op od_mul de_int (de_op od_pow de_int de_int)) (by rfl)) (dss_cons (ds_set 2 sc__law_draw.nd rfl (by first | exact Or.inl rfl | exact Or.inr rfl) (de_op od_mod (de_callTy xd_int (by rfl) B.n_int (by decide +kernel) (da_cons (de_op od_fdiv (de_var 3) de_int) da_nil)) (de_op od_shl de_int de_int)))
    (dss_cons (ds_asg (de_op od_fdiv (de_var 2) (de_var 1)) (dg_sub hu (de_var 0) de_int))
    (dss_one (ds_ret (de_op od_mod (de_callTy xd_int (by rfl) B.n_int (by decide +kernel) (da_cons (de_var 2) da_nil)) (de_var 1)))))) dss_nil)
    (dss_cons (ds_asg (de_op od_mod (de_callTy xd_int (by rfl) B.n_int (by decide +kernel) (da_cons (de_op od_add (de_op od_add (de_op od_add (de_op od_mul (de_ix hu (de_var 0) de_int (fun _ _ => rfl)) de_int) (de_op od_mul (de_op od_mod (de_callTy xd_int (by rfl) B.n_int (by decide +kernel) (da_cons (de_var 3) da_nil)) de_int) de_int)) (de_op od_mul (de_ix hu (de_var 0) de_int (fun _ _ => rfl)) de_int)) de_int) da_nil)) de_int) (dg_sub hu (de_var 0) de_int))
    (dss_one (ds_ret (de_op od_mod (de_callTy xd_int (by rfl) B.n_int (by decide +kernel) (da_cons (de_op od_fdiv (de_ix hu (de_var 0) de_int (fun _ _ => rfl)) de_int) da_nil)) (de_var 1))))))))))
theorem good__law_draw {sp : P1} (T : TopF K mg "_law_draw" "_law_draw" s__law_draw ["_law_d", "_law_many"]) (B : Blt mg) (len : ∀ ds h Q, sp ds h Q → ds.length = 2) (sat : ∀ ds h Q, sp ds h Q → rd__law_draw (endN Q) (startD 5 ds) h) : Good P w K mg base 1 "_law_draw" ["_law_d", "_law_many"] sp :=
  good_ok T sc__law_draw len (body__law_draw B) sat
theorem body__law_pool (B : Blt mg) (f : Addr) (cdv : Value) (A : Around) (outer : List Env) (s : Shared) (H : Hp) (E : XK) (hr : RoomG 0 (A.deeper (envOfC "_law_pool" (defScope s__law_pool) s.heap.objs.size f cdv))) :
    DSs (cxOf CX0 P w K mg base ["_law_text"] "_law_pool" (defScope s__law_pool) f cdv A outer s H E).nox (defBody s__law_pool) (rd__law_pool) := by
  have hu := hr.r.units
  have hu5 : (A.deeper (envOfC "_law_pool" (defScope s__law_pool) s.heap.objs.size f cdv)).units + 65 < cLine := by have := hr.r.un; omega
  exact (dss_cons (ds_set 0 sc__law_pool.nd rfl (by first | exact Or.inl rfl | exact Or.inr rfl) de_str)
    (dss_cons (ds_set 0 sc__law_pool.nd rfl (by first | exact Or.inl rfl | exact Or.inr rfl) (de_op od_add (de_var 0) de_str))
    (dss_one (ds_ret (de_split (de_op od_add (de_var 0) de_str) de_str)))))
theorem good__law_pool {sp : P1} (T : TopF K mg "_law_pool" "_law_pool" s__law_pool []) (B : Blt mg) (len : ∀ ds h Q, sp ds h Q → ds.length = 0) (sat : ∀ ds h Q, sp ds h Q → rd__law_pool (endN Q) (startD 1 ds) h) : Good P w K mg base 1 "_law_pool" [] sp :=
  good_ok T sc__law_pool len (body__law_pool B) sat
theorem body__law_tags_of (B : Blt mg) (f : Addr) (cdv : Value) (A : Around) (outer : List Env) (s : Shared) (H : Hp) (E : XK) (hr : RoomG 0 (A.deeper (envOfC "_law_tags_of" (defScope s__law_tags_of) s.heap.objs.size f cdv))) :
    DSs (cxOf CX0 P w K mg base ["_law_h", "_law_kind", "_law_row"] "_law_tags_of" (defScope s__law_tags_of) f cdv A outer s H E).nox (defBody s__law_tags_of) (rd__law_tags_of) := by
  have hu := hr.r.units
  have hu5 : (A.deeper (envOfC "_law_tags_of" (defScope s__law_tags_of) s.heap.objs.size f cdv)).units + 65 < cLine := by have := hr.r.un; omega
  exact (dss_one (ds_ret (de_callB (xd_sorted hu rfl) (by rfl) B.n_sorted (by decide +kernel) (da_cons (de_lc (own := [("_law_row", 2)]) (by rfl) sc__law_tags_of.nd (di_seq (de_ix hu (de_var 0) de_str (fun _ _ => rfl))) (blkOk_by (own := [("_law_row", 2)]) (N := ["_law_h", "_law_kind", "_law_row"]) (sc := defScope s__law_tags_of) (by decide +kernel)) (fun _ _ _ _ _ => (dg_name 2 (okAtW (by decide)) sc__law_tags_of.nd rfl (by first | exact Or.inl rfl | exact Or.inr rfl))) (fun _ _ _ _ _ => (dts_one (dt_cmpR (od_in hu5) (de_var 1) (de_ix hu (de_var 2) de_int (fun _ _ => rfl)) (by rfl)))) (fun _ _ _ _ _ => (de_ix hu (de_var 2) de_int (fun _ _ => rfl)))) da_nil))))
theorem good__law_tags_of {sp : P1} (T : TopF K mg "_law_tags_of" "_law_tags_of" s__law_tags_of ["_law_h", "_law_kind"]) (B : Blt mg) (len : ∀ ds h Q, sp ds h Q → ds.length = 2) (sat : ∀ ds h Q, sp ds h Q → rd__law_tags_of (endN Q) (startD 3 ds) h) : Good P w K mg base 1 "_law_tags_of" ["_law_h", "_law_kind"] sp :=
  good_ok T sc__law_tags_of len (body__law_tags_of B) sat
theorem body__law_numbers_of (B : Blt mg) (f : Addr) (cdv : Value) (A : Around) (outer : List Env) (s : Shared) (H : Hp) (E : XK) (hr : RoomG 0 (A.deeper (envOfC "_law_numbers_of" (defScope s__law_numbers_of) s.heap.objs.size f cdv))) :
    DSs (cxOf CX0 P w K mg base ["_law_h", "_law_kind", "_law_row"] "_law_numbers_of" (defScope s__law_numbers_of) f cdv A outer s H E).nox (defBody s__law_numbers_of) (rd__law_numbers_of) := by
  have hu := hr.r.units
  have hu5 : (A.deeper (envOfC "_law_numbers_of" (defScope s__law_numbers_of) s.heap.objs.size f cdv)).units + 65 < cLine := by have := hr.r.un; omega
  exact (dss_one (ds_ret (de_callB (xd_sorted hu rfl) (by rfl) B.n_sorted (by decide +kernel) (da_cons (de_lc (own := [("_law_row", 2)]) (by rfl) sc__law_numbers_of.nd (di_seq (de_ix hu (de_var 0) de_str (fun _ _ => rfl))) (blkOk_by (own := [("_law_row", 2)]) (N := ["_law_h", "_law_kind", "_law_row"]) (sc := defScope s__law_numbers_of) (by decide +kernel)) (fun _ _ _ _ _ => (dg_name 2 (okAtW (by decide)) sc__law_numbers_of.nd rfl (by first | exact Or.inl rfl | exact Or.inr rfl))) (fun _ _ _ _ _ => (dts_one (dt_cmpR (od_in hu5) (de_var 1) (de_ix hu (de_var 2) de_int (fun _ _ => rfl)) (by rfl)))) (fun _ _ _ _ _ => (de_ix hu (de_var 2) de_int (fun _ _ => rfl)))) da_nil))))
theorem good__law_numbers_of {sp : P1} (T : TopF K mg "_law_numbers_of" "_law_numbers_of" s__law_numbers_of ["_law_h", "_law_kind"]) (B : Blt mg) (len : ∀ ds h Q, sp ds h Q → ds.length = 2) (sat : ∀ ds h Q, sp ds h Q → rd__law_numbers_of (endN Q) (startD 3 ds) h) : Good P w K mg base 1 "_law_numbers_of" ["_law_h", "_law_kind"] sp :=
  good_ok T sc__law_numbers_of len (body__law_numbers_of B) sat
theorem body__law_marks (B : Blt mg) (f : Addr) (cdv : Value) (A : Around) (outer : List Env) (s : Shared) (H : Hp) (E : XK) (hr : RoomG 0 (A.deeper (envOfC "_law_marks" (defScope s__law_marks) s.heap.objs.size f cdv))) :
    DSs (cxOf CX0 P w K mg base ["_law_h", "_law_row", "_law_kind"] "_law_marks" (defScope s__law_marks) f cdv A outer s H E).nox (defBody s__law_marks) (rd__law_marks) := by
  have hu := hr.r.units
  have hu5 : (A.deeper (envOfC "_law_marks" (defScope s__law_marks) s.heap.objs.size f cdv)).units + 65 < cLine := by have := hr.r.un; omega
  exact (dss_one (ds_ret (de_lc (own := [("_law_row", 1)]) (by rfl) sc__law_marks.nd (di_seq (de_ix hu (de_var 0) de_str (fun _ _ => rfl))) (blkOk_by (own := [("_law_row", 1)]) (N := ["_law_h", "_law_row", "_law_kind"]) (sc := defScope s__law_marks) (by decide +kernel)) (fun _ _ _ _ _ => (dg_name 1 (okAtW (by decide)) sc__law_marks.nd rfl (by first | exact Or.inl rfl | exact Or.inr rfl))) (fun _ _ _ _ _ => (dts_one (dt_cmpR od_gt (de_callB xd_len (by rfl) B.n_len (by decide +kernel) (da_cons (de_lc (own := [("_law_kind", 2)]) (by rfl) sc__law_marks.nd (di_seq (de_ix hu (de_var 1) de_int (fun _ _ => rfl))) (blkOk_by (own := [("_law_kind", 2)]) (N := ["_law_h", "_law_row", "_law_kind"]) (sc := _) (by kernel_rfl)) (fun _ _ _ _ _ => (dg_name 2 (okAtW (by decide)) sc__law_marks.nd rfl (by first | exact Or.inl rfl | exact Or.inr rfl))) (fun _ _ _ _ _ => (dts_one (dt_cmpR (od_in hu5) (de_var 2) (de_ix hu (de_var 0) de_str (fun _ _ => rfl)) (by rfl)))) (fun _ _ _ _ _ => (de_var 2))) da_nil)) de_int (by rfl)))) (fun _ _ _ _ _ => (de_ix hu (de_var 1) de_int (fun _ _ => rfl))))))
theorem good__law_marks {sp : P1} (T : TopF K mg "_law_marks" "_law_marks" s__law_marks ["_law_h"]) (B : Blt mg) (len : ∀ ds h Q, sp ds h Q → ds.length = 1) (sat : ∀ ds h Q, sp ds h Q → rd__law_marks (endN Q) (startD 3 ds) h) : Good P w K mg base 1 "_law_marks" ["_law_h"] sp :=
  good_ok T sc__law_marks len (body__law_marks B) sat
theorem body__law_passes (B : Blt mg) (f : Addr) (cdv : Value) (A : Around) (outer : List Env) (s : Shared) (H : Hp) (E : XK) (hr : RoomG 0 (A.deeper (envOfC "_law_passes" (defScope s__law_passes) s.heap.objs.size f cdv))) :
    DSs (cxOf CX0 P w K mg base ["_law_tests", "_law_marks_here", "_law_tag", "_law_truth"] "_law_passes" (defScope s__law_passes) f cdv A outer s H E).nox (defBody s__law_passes) (rd__law_passes) := by
  have hu := hr.r.units
  have hu5 : (A.deeper (envOfC "_law_passes" (defScope s__law_passes) s.heap.objs.size f cdv)).units + 65 < cLine := by have := hr.r.un; omega
  exact (dss_cons (ds_for PassesOwn.never (by rfl) (di_seq (de_var 0)) (dg_tup (by rfl) (dgs_cons (dg_name 2 okAt0 sc__law_passes.nd rfl (by first | exact Or.inl rfl | exact Or.inr rfl)) (dgs_cons (dg_name 3 okAt0 sc__law_passes.nd rfl (by first | exact Or.inl rfl | exact Or.inr rfl)) dgs_nil))) (dss_one (ds_if (dt_cmpR (od_ne hu) (de_cmpR (od_in hu5) (de_var 2) (de_var 1) (by rfl)) (de_var 3) (by rfl)) (dss_one (ds_ret de_bl)) dss_nil)))
    (dss_one (ds_ret de_bl)))
theorem good__law_passes {sp : P1} (T : TopF K mg "_law_passes" "_law_passes" s__law_passes ["_law_tests", "_law_marks_here"]) (B : Blt mg) (len : ∀ ds h Q, sp ds h Q → ds.length = 2) (sat : ∀ ds h Q, sp ds h Q → rd__law_passes (endN Q) (startD 4 ds) h) : Good P w K mg base 1 "_law_passes" ["_law_tests", "_law_marks_here"] sp :=
  good_ok T sc__law_passes len (body__law_passes B) sat
theorem body__law_standing (B : Blt mg) (f : Addr) (cdv : Value) (A : Around) (outer : List Env) (s : Shared) (H : Hp) (E : XK) (hr : RoomG 0 (A.deeper (envOfC "_law_standing" (defScope s__law_standing) s.heap.objs.size f cdv))) :
    DSs (cxOf CX0 P w K mg base ["_law_h", "_law_kinds_here", "_law_name", "_law_kind", "_law_tags"] "_law_standing" (defScope s__law_standing) f cdv A outer s H E).nox (defBody s__law_standing) (rd__law_standing) := by
  have hu := hr.r.units
  have hu5 : (A.deeper (envOfC "_law_standing" (defScope s__law_standing) s.heap.objs.size f cdv)).units + 65 < cLine := by have := hr.r.un; omega
  exact (dss_cons (ds_asg (de_ix hu (de_var 1) (de_var 2) (fun _ _ => rfl)) (dg_tup (by rfl) (dgs_cons (dg_name 3 okAt0 sc__law_standing.nd rfl (by first | exact Or.inl rfl | exact Or.inr rfl)) (dgs_cons (dg_name 4 okAt0 sc__law_standing.nd rfl (by first | exact Or.inl rfl | exact Or.inr rfl)) dgs_nil))))
    (dss_one (ds_ret (de_tup (da_cons (de_var 3) (da_cons (de_ifExp (dt_cmpR (od_in hu5) (de_var 3) (de_ix hu (de_var 0) de_str (fun _ _ => rfl)) (by rfl)) (de_var 4) (de_tup da_nil)) da_nil))))))
theorem good__law_standing {sp : P1} (T : TopF K mg "_law_standing" "_law_standing" s__law_standing ["_law_h", "_law_kinds_here", "_law_name"]) (B : Blt mg) (len : ∀ ds h Q, sp ds h Q → ds.length = 3) (sat : ∀ ds h Q, sp ds h Q → rd__law_standing (endN Q) (startD 5 ds) h) : Good P w K mg base 1 "_law_standing" ["_law_h", "_law_kinds_here", "_law_name"] sp :=
  good_ok T sc__law_standing len (body__law_standing B) sat
theorem body__law_letter (B : Blt mg) (f : Addr) (cdv : Value) (A : Around) (outer : List Env) (s : Shared) (H : Hp) (E : XK) (hr : RoomG 0 (A.deeper (envOfC "_law_letter" (defScope s__law_letter) s.heap.objs.size f cdv))) :
    DSs (cxOf CX0 P w K mg base ["_law_h", "_law_kinds_here", "_law_tie", "_law_end", "_law_kind", "_law_tags"] "_law_letter" (defScope s__law_letter) f cdv A outer s H E).nox (defBody s__law_letter) (rd__law_letter) := by
  have hu := hr.r.units
  have hu5 : (A.deeper (envOfC "_law_letter" (defScope s__law_letter) s.heap.objs.size f cdv)).units + 65 < cLine := by have := hr.r.un; omega
  exact (dss_cons (ds_if (dt_cmpR (od_notIn hu5) (de_var 3) (de_var 1) (by rfl)) (dss_one (ds_ret (de_tup (da_cons (de_var 2) (da_cons (de_var 3) (da_cons (de_tup da_nil) da_nil)))))) dss_nil)
    (dss_cons (ds_asg (de_ix hu (de_var 1) (de_var 3) (fun _ _ => rfl)) (dg_tup (by rfl) (dgs_cons (dg_name 4 okAt0 sc__law_letter.nd rfl (by first | exact Or.inl rfl | exact Or.inr rfl)) (dgs_cons (dg_name 5 okAt0 sc__law_letter.nd rfl (by first | exact Or.inl rfl | exact Or.inr rfl)) dgs_nil))))
    (dss_one (ds_ret (de_tup (da_cons (de_var 2) (da_cons (de_var 4) (da_cons (de_ifExp (dt_cmpR (od_in hu5) (de_var 4) (de_ix hu (de_var 0) de_str (fun _ _ => rfl)) (by rfl)) (de_var 5) (de_tup da_nil)) da_nil))))))))
theorem good__law_letter {sp : P1} (T : TopF K mg "_law_letter" "_law_letter" s__law_letter ["_law_h", "_law_kinds_here", "_law_tie", "_law_end"]) (B : Blt mg) (len : ∀ ds h Q, sp ds h Q → ds.length = 4) (sat : ∀ ds h Q, sp ds h Q → rd__law_letter (endN Q) (startD 6 ds) h) : Good P w K mg base 1 "_law_letter" ["_law_h", "_law_kinds_here", "_law_tie", "_law_end"] sp :=
  good_ok T sc__law_letter len (body__law_letter B) sat
theorem body__law_kinds (B : Blt mg) (f : Addr) (cdv : Value) (A : Around) (outer : List Env) (s : Shared) (H : Hp) (E : XK) (hr : RoomG 0 (A.deeper (envOfC "_law_kinds" (defScope s__law_kinds) s.heap.objs.size f cdv))) :
    DSs (cxOf CX0 P w K mg base ["_law_nodes", "_law_found", "_law_name", "_law_kind", "_law_tags"] "_law_kinds" (defScope s__law_kinds) f cdv A outer s H E).nox (defBody s__law_kinds) (rd__law_kinds) := by
  have hu := hr.r.units
  have hu5 : (A.deeper (envOfC "_law_kinds" (defScope s__law_kinds) s.heap.objs.size f cdv)).units + 65 < cLine := by have := hr.r.un; omega
  exact (dss_cons (ds_set 1 sc__law_kinds.nd rfl (by first | exact Or.inl rfl | exact Or.inr rfl) de_dic0)
    (dss_cons (ds_for PassesOwn.never (by rfl) (di_seq (de_var 0)) (dg_tup (by rfl) (dgs_cons (dg_name 2 okAt0 sc__law_kinds.nd rfl (by first | exact Or.inl rfl | exact Or.inr rfl)) (dgs_cons (dg_name 3 okAt0 sc__law_kinds.nd rfl (by first | exact Or.inl rfl | exact Or.inr rfl)) (dgs_cons (dg_name 4 okAt0 sc__law_kinds.nd rfl (by first | exact Or.inl rfl | exact Or.inr rfl)) dgs_nil)))) (dss_one (ds_asg (de_tup (da_cons (de_var 3) (da_cons (de_var 4) da_nil))) (dg_sub hu (de_var 1) (de_var 2)))))
    (dss_one (ds_ret (de_var 1)))))
theorem good__law_kinds {sp : P1} (T : TopF K mg "_law_kinds" "_law_kinds" s__law_kinds ["_law_nodes"]) (B : Blt mg) (len : ∀ ds h Q, sp ds h Q → ds.length = 1) (sat : ∀ ds h Q, sp ds h Q → rd__law_kinds (endN Q) (startD 5 ds) h) : Good P w K mg base 1 "_law_kinds" ["_law_nodes"] sp :=
  good_ok T sc__law_kinds len (body__law_kinds B) sat
theorem body__law_lesser (B : Blt mg) (f : Addr) (cdv : Value) (A : Around) (outer : List Env) (s : Shared) (H : Hp) (E : XK) (hr : RoomG 0 (A.deeper (envOfC "_law_lesser" (defScope s__law_lesser) s.heap.objs.size f cdv))) :
    DSs (cxOf CX0 P w K mg base ["_law_sight", "_law_found", "_law_part", "_law_row", "_law_rows", "_law_one"] "_law_lesser" (defScope s__law_lesser) f cdv A outer s H E).nox (defBody s__law_lesser) (rd__law_lesser) := by
  have hu := hr.r.units
  have hu5 : (A.deeper (envOfC "_law_lesser" (defScope s__law_lesser) s.heap.objs.size f cdv)).units + 65 < cLine := by have := hr.r.un; omega
  exact (dss_cons (ds_set 1 sc__law_lesser.nd rfl (by first | exact Or.inl rfl | exact Or.inr rfl) (de_lst da_nil))
    (dss_cons (ds_for PassesOwn.never (by rfl) (di_seq (de_tup (da_cons de_int (da_cons de_int (da_cons de_int (da_cons de_int da_nil)))))) (dg_name 2 okAt0 sc__law_lesser.nd rfl (by first | exact Or.inl rfl | exact Or.inr rfl)) (dss_one (ds_for PassesOwn.never (by rfl) (di_seq (de_ix hu (de_var 0) (de_var 2) (fun _ _ => rfl))) (dg_name 3 okAt0 sc__law_lesser.nd rfl (by first | exact Or.inl rfl | exact Or.inr rfl)) (dss_one (ds_if (dt_w (dw_or (dt_cmpR (od_ne hu) (de_var 2) de_int (by rfl)) (dw_or1 (dt_cmpR (od_notIn hu5) (de_slice (de_var 3) do_none (do_some de_int)) (de_ix hu (de_var 0) de_int (fun _ _ => rfl)) (by rfl))))) (dss_cons (ds_set 4 sc__law_lesser.nd rfl (by first | exact Or.inl rfl | exact Or.inr rfl) (de_callTy xd_tuple (by rfl) B.n_tuple (by decide +kernel) (da_cons (de_lc (own := [("_law_one", 5)]) (by rfl) sc__law_lesser.nd (di_seq (de_ix hu (de_var 0) (de_var 2) (fun _ _ => rfl))) (blkOk_by (own := [("_law_one", 5)]) (N := ["_law_sight", "_law_found", "_law_part", "_law_row", "_law_rows", "_law_one"]) (sc := defScope s__law_lesser) (by decide +kernel)) (fun _ _ _ _ _ => (dg_name 5 (okAtW (by decide)) sc__law_lesser.nd rfl (by first | exact Or.inl rfl | exact Or.inr rfl))) (fun _ _ _ _ _ => (dts_one (dt_cmpR (od_ne hu) (de_var 5) (de_var 3) (by rfl)))) (fun _ _ _ _ _ => (de_var 5))) da_nil)))
    (dss_one (ds_expr (de_lm PySem.F.slot_list_append PySem.F.type_list_append xm_append (de_var 1) (da_cons (de_op od_add (de_op od_add (de_slice (de_var 0) do_none (do_some (de_var 2))) (de_tup (da_cons (de_var 4) da_nil))) (de_slice (de_var 0) (do_some (de_op od_add (de_var 2) de_int)) do_none)) da_nil))))) dss_nil)))))
    (dss_one (ds_ret (de_var 1)))))
theorem good__law_lesser {sp : P1} (T : TopF K mg "_law_lesser" "_law_lesser" s__law_lesser ["_law_sight"]) (B : Blt mg) (len : ∀ ds h Q, sp ds h Q → ds.length = 1) (sat : ∀ ds h Q, sp ds h Q → rd__law_lesser (endN Q) (startD 6 ds) h) : Good P w K mg base 1 "_law_lesser" ["_law_sight"] sp :=
  good_ok T sc__law_lesser len (body__law_lesser B) sat
theorem body_drop_closed {sp_without : P1} (B : Blt mg) (G_without : Good P w K mg base 1 "without" ["rows", "row"] sp_without) (f : Addr) (cdv : Value) (A : Around) (outer : List Env) (s : Shared) (H : Hp) (E : XK) (hr : RoomG 1 (A.deeper (envOfC "drop_closed" (defScope s_drop_closed) s.heap.objs.size f cdv))) :
    DSs (cxOf CX0 P w K mg base ["sight", "pair"] "drop_closed" (defScope s_drop_closed) f cdv A outer s H E).nox (defBody s_drop_closed) (rd_drop_closed sp_without) := by
  have hu := hr.r.units
  have hu5 : (A.deeper (envOfC "drop_closed" (defScope s_drop_closed) s.heap.objs.size f cdv)).units + 65 < cLine := by have := hr.r.un; omega
  exact (dss_one (ds_ret (de_tup (da_cons (de_ix hu (de_var 0) de_int (fun _ _ => rfl)) (da_cons (de_ix hu (de_var 0) de_int (fun _ _ => rfl)) (da_cons (de_callG G_without hr (by omega) (by rfl) (da_cons (de_ix hu (de_var 0) de_int (fun _ _ => rfl)) (da_cons (de_var 1) da_nil))) (da_cons (de_ix hu (de_var 0) de_int (fun _ _ => rfl)) (da_cons (de_ix hu (de_var 0) de_int (fun _ _ => rfl)) da_nil))))))))
theorem good_drop_closed {sp : P1} {sp_without : P1} (T : TopF K mg "drop_closed" "drop_closed" s_drop_closed ["sight", "pair"]) (B : Blt mg) (G_without : Good P w K mg base 1 "without" ["rows", "row"] sp_without) (len : ∀ ds h Q, sp ds h Q → ds.length = 2) (sat : ∀ ds h Q, sp ds h Q → rd_drop_closed sp_without (endN Q) (startD 2 ds) h) : Good P w K mg base 2 "drop_closed" ["sight", "pair"] sp :=
  good_ok T sc_drop_closed len (body_drop_closed B G_without) sat
theorem body_drop_link {sp_without : P1} (B : Blt mg) (G_without : Good P w K mg base 1 "without" ["rows", "row"] sp_without) (f : Addr) (cdv : Value) (A : Around) (outer : List Env) (s : Shared) (H : Hp) (E : XK) (hr : RoomG 1 (A.deeper (envOfC "drop_link" (defScope s_drop_link) s.heap.objs.size f cdv))) :
    DSs (cxOf CX0 P w K mg base ["sight", "link"] "drop_link" (defScope s_drop_link) f cdv A outer s H E).nox (defBody s_drop_link) (rd_drop_link sp_without) := by
  have hu := hr.r.units
  have hu5 : (A.deeper (envOfC "drop_link" (defScope s_drop_link) s.heap.objs.size f cdv)).units + 65 < cLine := by have := hr.r.un; omega
  exact (dss_one (ds_ret (de_tup (da_cons (de_ix hu (de_var 0) de_int (fun _ _ => rfl)) (da_cons (de_callG G_without hr (by omega) (by rfl) (da_cons (de_ix hu (de_var 0) de_int (fun _ _ => rfl)) (da_cons (de_var 1) da_nil))) (da_cons (de_ix hu (de_var 0) de_int (fun _ _ => rfl)) (da_cons (de_ix hu (de_var 0) de_int (fun _ _ => rfl)) (da_cons (de_ix hu (de_var 0) de_int (fun _ _ => rfl)) da_nil))))))))
theorem good_drop_link {sp : P1} {sp_without : P1} (T : TopF K mg "drop_link" "drop_link" s_drop_link ["sight", "link"]) (B : Blt mg) (G_without : Good P w K mg base 1 "without" ["rows", "row"] sp_without) (len : ∀ ds h Q, sp ds h Q → ds.length = 2) (sat : ∀ ds h Q, sp ds h Q → rd_drop_link sp_without (endN Q) (startD 2 ds) h) : Good P w K mg base 2 "drop_link" ["sight", "link"] sp :=
  good_ok T sc_drop_link len (body_drop_link B G_without) sat
theorem body_drop_tag {sp_without : P1} (B : Blt mg) (G_without : Good P w K mg base 1 "without" ["rows", "row"] sp_without) (f : Addr) (cdv : Value) (A : Around) (outer : List Env) (s : Shared) (H : Hp) (E : XK) (hr : RoomG 1 (A.deeper (envOfC "drop_tag" (defScope s_drop_tag) s.heap.objs.size f cdv))) :
    DSs (cxOf CX0 P w K mg base ["sight", "row"] "drop_tag" (defScope s_drop_tag) f cdv A outer s H E).nox (defBody s_drop_tag) (rd_drop_tag sp_without) := by
  have hu := hr.r.units
  have hu5 : (A.deeper (envOfC "drop_tag" (defScope s_drop_tag) s.heap.objs.size f cdv)).units + 65 < cLine := by have := hr.r.un; omega
  exact (dss_one (ds_ret (de_tup (da_cons (de_ix hu (de_var 0) de_int (fun _ _ => rfl)) (da_cons (de_ix hu (de_var 0) de_int (fun _ _ => rfl)) (da_cons (de_ix hu (de_var 0) de_int (fun _ _ => rfl)) (da_cons (de_callG G_without hr (by omega) (by rfl) (da_cons (de_ix hu (de_var 0) de_int (fun _ _ => rfl)) (da_cons (de_var 1) da_nil))) (da_cons (de_ix hu (de_var 0) de_int (fun _ _ => rfl)) da_nil))))))))
theorem good_drop_tag {sp : P1} {sp_without : P1} (T : TopF K mg "drop_tag" "drop_tag" s_drop_tag ["sight", "row"]) (B : Blt mg) (G_without : Good P w K mg base 1 "without" ["rows", "row"] sp_without) (len : ∀ ds h Q, sp ds h Q → ds.length = 2) (sat : ∀ ds h Q, sp ds h Q → rd_drop_tag sp_without (endN Q) (startD 2 ds) h) : Good P w K mg base 2 "drop_tag" ["sight", "row"] sp :=
  good_ok T sc_drop_tag len (body_drop_tag B G_without) sat
theorem body_drop_number {sp_without : P1} (B : Blt mg) (G_without : Good P w K mg base 1 "without" ["rows", "row"] sp_without) (f : Addr) (cdv : Value) (A : Around) (outer : List Env) (s : Shared) (H : Hp) (E : XK) (hr : RoomG 1 (A.deeper (envOfC "drop_number" (defScope s_drop_number) s.heap.objs.size f cdv))) :
    DSs (cxOf CX0 P w K mg base ["sight", "row"] "drop_number" (defScope s_drop_number) f cdv A outer s H E).nox (defBody s_drop_number) (rd_drop_number sp_without) := by
  have hu := hr.r.units
  have hu5 : (A.deeper (envOfC "drop_number" (defScope s_drop_number) s.heap.objs.size f cdv)).units + 65 < cLine := by have := hr.r.un; omega
  exact (dss_one (ds_ret (de_tup (da_cons (de_ix hu (de_var 0) de_int (fun _ _ => rfl)) (da_cons (de_ix hu (de_var 0) de_int (fun _ _ => rfl)) (da_cons (de_ix hu (de_var 0) de_int (fun _ _ => rfl)) (da_cons (de_ix hu (de_var 0) de_int (fun _ _ => rfl)) (da_cons (de_callG G_without hr (by omega) (by rfl) (da_cons (de_ix hu (de_var 0) de_int (fun _ _ => rfl)) (da_cons (de_var 1) da_nil))) da_nil))))))))
theorem good_drop_number {sp : P1} {sp_without : P1} (T : TopF K mg "drop_number" "drop_number" s_drop_number ["sight", "row"]) (B : Blt mg) (G_without : Good P w K mg base 1 "without" ["rows", "row"] sp_without) (len : ∀ ds h Q, sp ds h Q → ds.length = 2) (sat : ∀ ds h Q, sp ds h Q → rd_drop_number sp_without (endN Q) (startD 2 ds) h) : Good P w K mg base 2 "drop_number" ["sight", "row"] sp :=
  good_ok T sc_drop_number len (body_drop_number B G_without) sat
theorem body__law_pick {sp__law_draw : P1} (B : Blt mg) (G__law_draw : Good P w K mg base 1 "_law_draw" ["_law_d", "_law_many"] sp__law_draw) (f : Addr) (cdv : Value) (A : Around) (outer : List Env) (s : Shared) (H : Hp) (E : XK) (hr : RoomG 1 (A.deeper (envOfC "_law_pick" (defScope s__law_pick) s.heap.objs.size f cdv))) :
    DSs (cxOf CX0 P w K mg base ["_law_d", "_law_row"] "_law_pick" (defScope s__law_pick) f cdv A outer s H E).nox (defBody s__law_pick) (rd__law_pick sp__law_draw) := by
  have hu := hr.r.units
  have hu5 : (A.deeper (envOfC "_law_pick" (defScope s__law_pick) s.heap.objs.size f cdv)).units + 65 < cLine := by have := hr.r.un; omega
  exact (dss_one (ds_ret (de_ix hu (de_var 1) (de_callG G__law_draw hr (by omega) (by rfl) (da_cons (de_var 0) (da_cons (de_callB xd_len (by rfl) B.n_len (by decide +kernel) (da_cons (de_var 1) da_nil)) da_nil))) (fun _ _ => rfl))))
theorem good__law_pick {sp : P1} {sp__law_draw : P1} (T : TopF K mg "_law_pick" "_law_pick" s__law_pick ["_law_d", "_law_row"]) (B : Blt mg) (G__law_draw : Good P w K mg base 1 "_law_draw" ["_law_d", "_law_many"] sp__law_draw) (len : ∀ ds h Q, sp ds h Q → ds.length = 2) (sat : ∀ ds h Q, sp ds h Q → rd__law_pick sp__law_draw (endN Q) (startD 2 ds) h) : Good P w K mg base 2 "_law_pick" ["_law_d", "_law_row"] sp :=
  good_ok T sc__law_pick len (body__law_pick B G__law_draw) sat
theorem body__law_pop {sp__law_draw : P1} (B : Blt mg) (G__law_draw : Good P w K mg base 1 "_law_draw" ["_law_d", "_law_many"] sp__law_draw) (f : Addr) (cdv : Value) (A : Around) (outer : List Env) (s : Shared) (H : Hp) (E : XK) (hr : RoomG 1 (A.deeper (envOfC "_law_pop" (defScope s__law_pop) s.heap.objs.size f cdv))) :
    DSs (cxOf CX0 P w K mg base ["_law_d", "_law_row"] "_law_pop" (defScope s__law_pop) f cdv A outer s H E).nox (defBody s__law_pop) (rd__law_pop sp__law_draw) := by
  have hu := hr.r.units
  have hu5 : (A.deeper (envOfC "_law_pop" (defScope s__law_pop) s.heap.objs.size f cdv)).units + 65 < cLine := by have := hr.r.un; omega
  exact (dss_one (ds_ret (de_lm PySem.F.slot_list_pop PySem.F.type_list_pop xm_pop (de_var 1) (da_cons (de_callG G__law_draw hr (by omega) (by rfl) (da_cons (de_var 0) (da_cons (de_callB xd_len (by rfl) B.n_len (by decide +kernel) (da_cons (de_var 1) da_nil)) da_nil))) da_nil))))
theorem good__law_pop {sp : P1} {sp__law_draw : P1} (T : TopF K mg "_law_pop" "_law_pop" s__law_pop ["_law_d", "_law_row"]) (B : Blt mg) (G__law_draw : Good P w K mg base 1 "_law_draw" ["_law_d", "_law_many"] sp__law_draw) (len : ∀ ds h Q, sp ds h Q → ds.length = 2) (sat : ∀ ds h Q, sp ds h Q → rd__law_pop sp__law_draw (endN Q) (startD 2 ds) h) : Good P w K mg base 2 "_law_pop" ["_law_d", "_law_row"] sp :=
  good_ok T sc__law_pop len (body__law_pop B G__law_draw) sat
theorem body__law_rare {sp__law_draw : P1} (B : Blt mg) (G__law_draw : Good P w K mg base 1 "_law_draw" ["_law_d", "_law_many"] sp__law_draw) (f : Addr) (cdv : Value) (A : Around) (outer : List Env) (s : Shared) (H : Hp) (E : XK) (hr : RoomG 1 (A.deeper (envOfC "_law_rare" (defScope s__law_rare) s.heap.objs.size f cdv))) :
    DSs (cxOf CX0 P w K mg base ["_law_d", "_law_many"] "_law_rare" (defScope s__law_rare) f cdv A outer s H E).nox (defBody s__law_rare) (rd__law_rare sp__law_draw) := by
  have hu := hr.r.units
  have hu5 : (A.deeper (envOfC "_law_rare" (defScope s__law_rare) s.heap.objs.size f cdv)).units + 65 < cLine := by have := hr.r.un; omega
  exact (dss_one (ds_ret (de_cmpR (od_eq hu) (de_callG G__law_draw hr (by omega) (by rfl) (da_cons (de_var 0) (da_cons (de_var 1) da_nil))) (de_op od_fdiv (de_var 1) de_int) (by rfl))))
theorem good__law_rare {sp : P1} {sp__law_draw : P1} (T : TopF K mg "_law_rare" "_law_rare" s__law_rare ["_law_d", "_law_many"]) (B : Blt mg) (G__law_draw : Good P w K mg base 1 "_law_draw" ["_law_d", "_law_many"] sp__law_draw) (len : ∀ ds h Q, sp ds h Q → ds.length = 2) (sat : ∀ ds h Q, sp ds h Q → rd__law_rare sp__law_draw (endN Q) (startD 2 ds) h) : Good P w K mg base 2 "_law_rare" ["_law_d", "_law_many"] sp :=
  good_ok T sc__law_rare len (body__law_rare B G__law_draw) sat
theorem body__law_some {sp__law_draw : P1} (B : Blt mg) (G__law_draw : Good P w K mg base 1 "_law_draw" ["_law_d", "_law_many"] sp__law_draw) (f : Addr) (cdv : Value) (A : Around) (outer : List Env) (s : Shared) (H : Hp) (E : XK) (hr : RoomG 1 (A.deeper (envOfC "_law_some" (defScope s__law_some) s.heap.objs.size f cdv))) :
    DSs (cxOf CX0 P w K mg base ["_law_d", "_law_row", "_law_least", "_law_found", "_law_left", "_law_item"] "_law_some" (defScope s__law_some) f cdv A outer s H E).nox (defBody s__law_some) (rd__law_some sp__law_draw) := by
  have hu := hr.r.units
  have hu5 : (A.deeper (envOfC "_law_some" (defScope s__law_some) s.heap.objs.size f cdv)).units + 65 < cLine := by have := hr.r.un; omega
  exact (dss_cons (ds_set 3 sc__law_some.nd rfl (by first | exact Or.inl rfl | exact Or.inr rfl) (de_lc (own := [("_law_item", 5)]) (by rfl) sc__law_some.nd (di_seq (de_var 1)) (blkOk_by (own := [("_law_item", 5)]) (N := ["_law_d", "_law_row", "_law_least", "_law_found", "_law_left", "_law_item"]) (sc := defScope s__law_some) (by decide +kernel)) (fun _ _ _ _ _ => (dg_name 5 (okAtW (by decide)) sc__law_some.nd rfl (by first | exact Or.inl rfl | exact Or.inr rfl))) (fun _ _ _ _ _ => (dts_one (dt_cmpR (od_eq hu) (de_callG G__law_draw hr (by omega) (by rfl) (da_cons (de_var 0) (da_cons de_int da_nil))) de_int (by rfl)))) (fun _ _ _ _ _ => (de_var 5))))
    (dss_cons (ds_setLc 4 (own := [("_law_item", 5)]) (by rfl) sc__law_some.nd rfl rfl (sw_true rfl rfl rfl (by decide +kernel)) (di_seq (de_var 1)) (blkOk_by (own := [("_law_item", 5)]) (N := ["_law_d", "_law_row", "_law_least", "_law_found", "_law_left", "_law_item"]) (sc := defScope s__law_some) (by decide +kernel)) (fun _ _ _ _ _ => (dg_name 5 (okAtW (by decide)) sc__law_some.nd rfl (by first | exact Or.inl rfl | exact Or.inr rfl))) (fun _ _ _ _ _ => (dts_one (dt_cmpR (od_notIn hu5) (de_var 5) (de_var 3) (by rfl)))) (fun _ _ _ _ _ => (de_var 5)))
    (dss_cons (ds_while PassesOwn.never (dt_w (dw_and (dt_cmpR od_lt (de_callB xd_len (by rfl) B.n_len (by decide +kernel) (da_cons (de_var 3) da_nil)) (de_var 2) (by rfl)) (dw_and1 (dt_cmpR od_gt (de_callB xd_len (by rfl) B.n_len (by decide +kernel) (da_cons (de_var 4) da_nil)) de_int (by rfl))))) (dss_one (ds_expr (de_lm PySem.F.slot_list_append PySem.F.type_list_append xm_append (de_var 3) (da_cons (de_lm PySem.F.slot_list_pop PySem.F.type_list_pop xm_pop (de_var 4) (da_cons (de_callG G__law_draw hr (by omega) (by rfl) (da_cons (de_var 0) (da_cons (de_callB xd_len (by rfl) B.n_len (by decide +kernel) (da_cons (de_var 4) da_nil)) da_nil))) da_nil)) da_nil)))))
    (dss_one (ds_ret (de_var 3))))))
theorem good__law_some {sp : P1} {sp__law_draw : P1} (T : TopF K mg "_law_some" "_law_some" s__law_some ["_law_d", "_law_row", "_law_least"]) (B : Blt mg) (G__law_draw : Good P w K mg base 1 "_law_draw" ["_law_d", "_law_many"] sp__law_draw) (len : ∀ ds h Q, sp ds h Q → ds.length = 3) (sat : ∀ ds h Q, sp ds h Q → rd__law_some sp__law_draw (endN Q) (startD 6 ds) h) : Good P w K mg base 2 "_law_some" ["_law_d", "_law_row", "_law_least"] sp :=
  good_ok T sc__law_some len (body__law_some B G__law_draw) sat
theorem body__law_shuffled {sp__law_draw : P1} (B : Blt mg) (G__law_draw : Good P w K mg base 1 "_law_draw" ["_law_d", "_law_many"] sp__law_draw) (f : Addr) (cdv : Value) (A : Around) (outer : List Env) (s : Shared) (H : Hp) (E : XK) (hr : RoomG 1 (A.deeper (envOfC "_law_shuffled" (defScope s__law_shuffled) s.heap.objs.size f cdv))) :
    DSs (cxOf CX0 P w K mg base ["_law_d", "_law_row", "_law_left", "_law_found", "_law_k"] "_law_shuffled" (defScope s__law_shuffled) f cdv A outer s H E).nox (defBody s__law_shuffled) (rd__law_shuffled sp__law_draw) := by
  have hu := hr.r.units
  have hu5 : (A.deeper (envOfC "_law_shuffled" (defScope s__law_shuffled) s.heap.objs.size f cdv)).units + 65 < cLine := by have := hr.r.un; omega
  exact (dss_cons (ds_set 2 sc__law_shuffled.nd rfl (by first | exact Or.inl rfl | exact Or.inr rfl) (de_callTy xd_list (by rfl) B.n_list (by decide +kernel) (da_cons (de_var 1) da_nil)))
    (dss_cons (ds_set 3 sc__law_shuffled.nd rfl (by first | exact Or.inl rfl | exact Or.inr rfl) (de_lst da_nil))
    (dss_cons (ds_for PassesOwn.never (by rfl) (di_range1 (by rfl) B.n_range (da_cons (de_callB xd_len (by rfl) B.n_len (by decide +kernel) (da_cons (de_var 2) da_nil)) da_nil)) (dg_name 4 okAt0 sc__law_shuffled.nd rfl (by first | exact Or.inl rfl | exact Or.inr rfl)) (dss_one (ds_expr (de_lm PySem.F.slot_list_append PySem.F.type_list_append xm_append (de_var 3) (da_cons (de_lm PySem.F.slot_list_pop PySem.F.type_list_pop xm_pop (de_var 2) (da_cons (de_callG G__law_draw hr (by omega) (by rfl) (da_cons (de_var 0) (da_cons (de_callB xd_len (by rfl) B.n_len (by decide +kernel) (da_cons (de_var 2) da_nil)) da_nil))) da_nil)) da_nil)))))
    (dss_one (ds_ret (de_var 3))))))
theorem good__law_shuffled {sp : P1} {sp__law_draw : P1} (T : TopF K mg "_law_shuffled" "_law_shuffled" s__law_shuffled ["_law_d", "_law_row"]) (B : Blt mg) (G__law_draw : Good P w K mg base 1 "_law_draw" ["_law_d", "_law_many"] sp__law_draw) (len : ∀ ds h Q, sp ds h Q → ds.length = 2) (sat : ∀ ds h Q, sp ds h Q → rd__law_shuffled sp__law_draw (endN Q) (startD 5 ds) h) : Good P w K mg base 2 "_law_shuffled" ["_law_d", "_law_row"] sp :=
  good_ok T sc__law_shuffled len (body__law_shuffled B G__law_draw) sat
theorem body__law_allowed {sp__law_tags_of : P1} {sp__law_passes : P1} (B : Blt mg) (G__law_tags_of : Good P w K mg base 1 "_law_tags_of" ["_law_h", "_law_kind"] sp__law_tags_of) (G__law_passes : Good P w K mg base 1 "_law_passes" ["_law_tests", "_law_marks_here"] sp__law_passes) (f : Addr) (cdv : Value) (A : Around) (outer : List Env) (s : Shared) (H : Hp) (E : XK) (hr : RoomG 1 (A.deeper (envOfC "_law_allowed" (defScope s__law_allowed) s.heap.objs.size f cdv))) :
    DSs (cxOf CX0 P w K mg base ["_law_h", "_law_standing_here", "_law_letter_here", "_law_rows", "_law_tie", "_law_first", "_law_second", "_law_row", "_law_tag"] "_law_allowed" (defScope s__law_allowed) f cdv A outer s H E).nox (defBody s__law_allowed) (rd__law_allowed sp__law_tags_of sp__law_passes) := by
  have hu := hr.r.units
  have hu5 : (A.deeper (envOfC "_law_allowed" (defScope s__law_allowed) s.heap.objs.size f cdv)).units + 65 < cLine := by have := hr.r.un; omega
  exact (dss_cons (ds_setLc 3 (own := [("_law_row", 7)]) (by rfl) sc__law_allowed.nd rfl rfl (sw_true rfl rfl rfl (by decide +kernel)) (di_seq (de_ix hu (de_var 0) de_str (fun _ _ => rfl))) (blkOk_by (own := [("_law_row", 7)]) (N := ["_law_h", "_law_standing_here", "_law_letter_here", "_law_rows", "_law_tie", "_law_first", "_law_second", "_law_row", "_law_tag"]) (sc := defScope s__law_allowed) (by decide +kernel)) (fun _ _ _ _ _ => (dg_name 7 (okAtW (by decide)) sc__law_allowed.nd rfl (by first | exact Or.inl rfl | exact Or.inr rfl))) (fun _ _ _ _ _ => (dts_one (dt_cmpR (od_eq hu) (de_ix hu (de_var 7) de_int (fun _ _ => rfl)) (de_ix hu (de_var 2) de_int (fun _ _ => rfl)) (by rfl)))) (fun _ _ _ _ _ => (de_var 7)))
    (dss_cons (ds_if (dt_w (dw_or (dt_cmpR (od_eq hu) (de_callB xd_len (by rfl) B.n_len (by decide +kernel) (da_cons (de_var 3) da_nil)) de_int (by rfl)) (dw_or (dt_cmpR (od_notIn hu5) (de_ix hu (de_var 1) de_int (fun _ _ => rfl)) (de_ix hu (de_ix hu (de_var 3) de_int (fun _ _ => rfl)) de_int (fun _ _ => rfl)) (by rfl)) (dw_or1 (dt_cmpR (od_notIn hu5) (de_ix hu (de_var 2) de_int (fun _ _ => rfl)) (de_ix hu (de_ix hu (de_var 3) de_int (fun _ _ => rfl)) de_int (fun _ _ => rfl)) (by rfl)))))) (dss_one (ds_ret de_bl)) dss_nil)
    (dss_cons (ds_if (dt_cmpR (od_notIn hu5) (de_ix hu (de_var 2) de_int (fun _ _ => rfl)) (de_ix hu (de_var 0) de_str (fun _ _ => rfl)) (by rfl)) (dss_one (ds_ret (de_cmpR (od_eq hu) (de_ix hu (de_var 2) de_int (fun _ _ => rfl)) (de_tup da_nil) (by rfl)))) dss_nil)
    (dss_cons (ds_if (dt_not (dt_tru (de_callB (xd_all rfl) (by rfl) B.n_all (by decide +kernel) (da_cons (de_lc (own := [("_law_tag", 8)]) (by rfl) sc__law_allowed.nd (di_seq (de_ix hu (de_var 2) de_int (fun _ _ => rfl))) (blkOk_by (own := [("_law_tag", 8)]) (N := ["_law_h", "_law_standing_here", "_law_letter_here", "_law_rows", "_law_tie", "_law_first", "_law_second", "_law_row", "_law_tag"]) (sc := defScope s__law_allowed) (by decide +kernel)) (fun _ _ _ _ _ => (dg_name 8 (okAtW (by decide)) sc__law_allowed.nd rfl (by first | exact Or.inl rfl | exact Or.inr rfl))) (fun _ _ _ _ _ => dts_nil) (fun _ _ _ _ _ => (de_cmpR (od_in hu5) (de_var 8) (de_callG G__law_tags_of hr (by omega) (by rfl) (da_cons (de_var 0) (da_cons (de_ix hu (de_var 2) de_int (fun _ _ => rfl)) da_nil))) (by rfl)))) da_nil)))) (dss_one (ds_ret de_bl)) dss_nil)
    (dss_cons (ds_if (dt_cmpR (od_notIn hu5) (de_ix hu (de_var 1) de_int (fun _ _ => rfl)) (de_ix hu (de_var 0) de_str (fun _ _ => rfl)) (by rfl)) (dss_one (ds_ret de_bl)) dss_nil)
    (dss_cons (ds_for PassesOwn.never (by rfl) (di_seq (de_ix hu (de_var 0) de_str (fun _ _ => rfl))) (dg_tup (by rfl) (dgs_cons (dg_name 4 okAt0 sc__law_allowed.nd rfl (by first | exact Or.inl rfl | exact Or.inr rfl)) (dgs_cons (dg_name 5 okAt0 sc__law_allowed.nd rfl (by first | exact Or.inl rfl | exact Or.inr rfl)) (dgs_cons (dg_name 6 okAt0 sc__law_allowed.nd rfl (by first | exact Or.inl rfl | exact Or.inr rfl)) dgs_nil)))) (dss_one (ds_if (dt_w (dw_and (dt_cmpR (od_eq hu) (de_var 4) (de_ix hu (de_var 2) de_int (fun _ _ => rfl)) (by rfl)) (dw_and (dt_tru (de_callG G__law_passes hr (by omega) (by rfl) (da_cons (de_var 5) (da_cons (de_ix hu (de_var 1) de_int (fun _ _ => rfl)) da_nil)))) (dw_and1 (dt_tru (de_callG G__law_passes hr (by omega) (by rfl) (da_cons (de_var 6) (da_cons (de_ix hu (de_var 2) de_int (fun _ _ => rfl)) da_nil)))))))) (dss_one (ds_ret de_bl)) dss_nil)))
    (dss_one (ds_ret de_bl))))))))
theorem good__law_allowed {sp : P1} {sp__law_tags_of : P1} {sp__law_passes : P1} (T : TopF K mg "_law_allowed" "_law_allowed" s__law_allowed ["_law_h", "_law_standing_here", "_law_letter_here"]) (B : Blt mg) (G__law_tags_of : Good P w K mg base 1 "_law_tags_of" ["_law_h", "_law_kind"] sp__law_tags_of) (G__law_passes : Good P w K mg base 1 "_law_passes" ["_law_tests", "_law_marks_here"] sp__law_passes) (len : ∀ ds h Q, sp ds h Q → ds.length = 3) (sat : ∀ ds h Q, sp ds h Q → rd__law_allowed sp__law_tags_of sp__law_passes (endN Q) (startD 9 ds) h) : Good P w K mg base 2 "_law_allowed" ["_law_h", "_law_standing_here", "_law_letter_here"] sp :=
  good_ok T sc__law_allowed len (body__law_allowed B G__law_tags_of G__law_passes) sat
theorem body__law_full_sight {sp__law_tags_of : P1} (B : Blt mg) (G__law_tags_of : Good P w K mg base 1 "_law_tags_of" ["_law_h", "_law_kind"] sp__law_tags_of) (f : Addr) (cdv : Value) (A : Around) (outer : List Env) (s : Shared) (H : Hp) (E : XK) (hr : RoomG 1 (A.deeper (envOfC "_law_full_sight" (defScope s__law_full_sight) s.heap.objs.size f cdv))) :
    DSs (cxOf CX0 P w K mg base ["_law_h", "_law_world_here", "_law_nodes", "_law_closed", "_law_tags", "_law_name", "_law_kind", "_law_marks_here", "_law_tie", "_law_fronts", "_law_ends", "_law_tag"] "_law_full_sight" (defScope s__law_full_sight) f cdv A outer s H E).nox (defBody s__law_full_sight) (rd__law_full_sight sp__law_tags_of) := by
  have hu := hr.r.units
  have hu5 : (A.deeper (envOfC "_law_full_sight" (defScope s__law_full_sight) s.heap.objs.size f cdv)).units + 65 < cLine := by have := hr.r.un; omega
  exact (dss_cons (ds_set 2 sc__law_full_sight.nd rfl (by first | exact Or.inl rfl | exact Or.inr rfl) (de_lst da_nil))
    (dss_cons (ds_set 3 sc__law_full_sight.nd rfl (by first | exact Or.inl rfl | exact Or.inr rfl) (de_lst da_nil))
    (dss_cons (ds_set 4 sc__law_full_sight.nd rfl (by first | exact Or.inl rfl | exact Or.inr rfl) (de_lst da_nil))
    (dss_cons (ds_for PassesOwn.never (by rfl) (di_seq (de_ix hu (de_var 1) de_int (fun _ _ => rfl))) (dg_tup (by rfl) (dgs_cons (dg_name 5 okAt0 sc__law_full_sight.nd rfl (by first | exact Or.inl rfl | exact Or.inr rfl)) (dgs_cons (dg_name 6 okAt0 sc__law_full_sight.nd rfl (by first | exact Or.inl rfl | exact Or.inr rfl)) (dgs_cons (dg_name 7 okAt0 sc__law_full_sight.nd rfl (by first | exact Or.inl rfl | exact Or.inr rfl)) dgs_nil)))) (dss_cons (ds_expr (de_lm PySem.F.slot_list_append PySem.F.type_list_append xm_append (de_var 2) (da_cons (de_tup (da_cons (de_var 5) (da_cons (de_var 6) (da_cons (de_ifExp (dt_cmpR (od_in hu5) (de_var 6) (de_ix hu (de_var 0) de_str (fun _ _ => rfl)) (by rfl)) (de_var 7) (de_tup da_nil)) da_nil)))) da_nil)))
    (dss_cons (ds_for PassesOwn.never (by rfl) (di_seq (de_ix hu (de_var 0) de_str (fun _ _ => rfl))) (dg_tup (by rfl) (dgs_cons (dg_name 8 okAt0 sc__law_full_sight.nd rfl (by first | exact Or.inl rfl | exact Or.inr rfl)) (dgs_cons (dg_name 9 okAt0 sc__law_full_sight.nd rfl (by first | exact Or.inl rfl | exact Or.inr rfl)) (dgs_cons (dg_name 10 okAt0 sc__law_full_sight.nd rfl (by first | exact Or.inl rfl | exact Or.inr rfl)) dgs_nil)))) (dss_one (ds_if (dt_cmpR (od_in hu5) (de_var 6) (de_var 9) (by rfl)) (dss_one (ds_expr (de_lm PySem.F.slot_list_append PySem.F.type_list_append xm_append (de_var 3) (da_cons (de_tup (da_cons (de_var 5) (da_cons (de_var 8) da_nil))) da_nil)))) dss_nil)))
    (dss_one (ds_if (dt_cmpR (od_notIn hu5) (de_var 6) (de_ix hu (de_var 0) de_str (fun _ _ => rfl)) (by rfl)) (dss_one (ds_for PassesOwn.never (by rfl) (di_seq (de_callG G__law_tags_of hr (by omega) (by rfl) (da_cons (de_var 0) (da_cons (de_var 6) da_nil)))) (dg_name 11 okAt0 sc__law_full_sight.nd rfl (by first | exact Or.inl rfl | exact Or.inr rfl)) (dss_one (ds_expr (de_lm PySem.F.slot_list_append PySem.F.type_list_append xm_append (de_var 4) (da_cons (de_tup (da_cons (de_var 5) (da_cons (de_var 11) (da_cons (de_cmpR (od_in hu5) (de_var 11) (de_var 7) (by rfl)) da_nil)))) da_nil)))))) dss_nil)))))
    (dss_one (ds_ret (de_tup (da_cons (de_callTy xd_tuple (by rfl) B.n_tuple (by decide +kernel) (da_cons (de_var 2) da_nil)) (da_cons (de_ix hu (de_var 1) de_int (fun _ _ => rfl)) (da_cons (de_callTy xd_tuple (by rfl) B.n_tuple (by decide +kernel) (da_cons (de_callB (xd_sorted hu rfl) (by rfl) B.n_sorted (by decide +kernel) (da_cons (de_var 3) da_nil)) da_nil)) (da_cons (de_callTy xd_tuple (by rfl) B.n_tuple (by decide +kernel) (da_cons (de_callB (xd_sorted hu rfl) (by rfl) B.n_sorted (by decide +kernel) (da_cons (de_var 4) da_nil)) da_nil)) (da_cons (de_ix hu (de_var 1) de_int (fun _ _ => rfl)) da_nil))))))))))))
theorem good__law_full_sight {sp : P1} {sp__law_tags_of : P1} (T : TopF K mg "_law_full_sight" "_law_full_sight" s__law_full_sight ["_law_h", "_law_world_here"]) (B : Blt mg) (G__law_tags_of : Good P w K mg base 1 "_law_tags_of" ["_law_h", "_law_kind"] sp__law_tags_of) (len : ∀ ds h Q, sp ds h Q → ds.length = 2) (sat : ∀ ds h Q, sp ds h Q → rd__law_full_sight sp__law_tags_of (endN Q) (startD 12 ds) h) : Good P w K mg base 2 "_law_full_sight" ["_law_h", "_law_world_here"] sp :=
  good_ok T sc__law_full_sight len (body__law_full_sight B G__law_tags_of) sat
theorem body_weaker {sp_drop_closed : P1} {sp_drop_link : P1} {sp_drop_tag : P1} {sp_drop_number : P1} (B : Blt mg) (G_drop_closed : Good P w K mg base 2 "drop_closed" ["sight", "pair"] sp_drop_closed) (G_drop_link : Good P w K mg base 2 "drop_link" ["sight", "link"] sp_drop_link) (G_drop_tag : Good P w K mg base 2 "drop_tag" ["sight", "row"] sp_drop_tag) (G_drop_number : Good P w K mg base 2 "drop_number" ["sight", "row"] sp_drop_number) (f : Addr) (cdv : Value) (A : Around) (outer : List Env) (s : Shared) (H : Hp) (E : XK) (hr : RoomG 2 (A.deeper (envOfC "weaker" (defScope s_weaker) s.heap.objs.size f cdv))) :
    DSs (cxOf CX0 P w K mg base ["sight", "found", "pair", "link", "row"] "weaker" (defScope s_weaker) f cdv A outer s H E).nox (defBody s_weaker) (rd_weaker sp_drop_closed sp_drop_link sp_drop_tag sp_drop_number) := by
  have hu := hr.r.units
  have hu5 : (A.deeper (envOfC "weaker" (defScope s_weaker) s.heap.objs.size f cdv)).units + 65 < cLine := by have := hr.r.un; omega
  exact (dss_cons (ds_setLc 1 (own := [("pair", 2)]) (by rfl) sc_weaker.nd rfl rfl (sw_true rfl rfl rfl (by decide +kernel)) (di_seq (de_ix hu (de_var 0) de_int (fun _ _ => rfl))) (blkOk_by (own := [("pair", 2)]) (N := ["sight", "found", "pair", "link", "row"]) (sc := defScope s_weaker) (by decide +kernel)) (fun _ _ _ _ _ => (dg_name 2 (okAtW (by decide)) sc_weaker.nd rfl (by first | exact Or.inl rfl | exact Or.inr rfl))) (fun _ _ _ _ _ => dts_nil) (fun _ _ _ _ _ => (de_callG G_drop_closed hr (by omega) (by rfl) (da_cons (de_var 0) (da_cons (de_var 2) da_nil)))))
    (dss_cons (ds_expr (de_lm PySem.F.slot_list_extend PySem.F.type_list_extend xm_extend (de_var 1) (da_cons (de_lc (own := [("link", 3)]) (by rfl) sc_weaker.nd (di_seq (de_ix hu (de_var 0) de_int (fun _ _ => rfl))) (blkOk_by (own := [("link", 3)]) (N := ["sight", "found", "pair", "link", "row"]) (sc := defScope s_weaker) (by decide +kernel)) (fun _ _ _ _ _ => (dg_name 3 (okAtW (by decide)) sc_weaker.nd rfl (by first | exact Or.inl rfl | exact Or.inr rfl))) (fun _ _ _ _ _ => (dts_one (dt_cmpR (od_notIn hu5) (de_slice (de_var 3) do_none (do_some de_int)) (de_ix hu (de_var 0) de_int (fun _ _ => rfl)) (by rfl)))) (fun _ _ _ _ _ => (de_callG G_drop_link hr (by omega) (by rfl) (da_cons (de_var 0) (da_cons (de_var 3) da_nil))))) da_nil)))
    (dss_cons (ds_expr (de_lm PySem.F.slot_list_extend PySem.F.type_list_extend xm_extend (de_var 1) (da_cons (de_lc (own := [("row", 4)]) (by rfl) sc_weaker.nd (di_seq (de_ix hu (de_var 0) de_int (fun _ _ => rfl))) (blkOk_by (own := [("row", 4)]) (N := ["sight", "found", "pair", "link", "row"]) (sc := defScope s_weaker) (by decide +kernel)) (fun _ _ _ _ _ => (dg_name 4 (okAtW (by decide)) sc_weaker.nd rfl (by first | exact Or.inl rfl | exact Or.inr rfl))) (fun _ _ _ _ _ => dts_nil) (fun _ _ _ _ _ => (de_callG G_drop_tag hr (by omega) (by rfl) (da_cons (de_var 0) (da_cons (de_var 4) da_nil))))) da_nil)))
    (dss_cons (ds_expr (de_lm PySem.F.slot_list_extend PySem.F.type_list_extend xm_extend (de_var 1) (da_cons (de_lc (own := [("row", 4)]) (by rfl) sc_weaker.nd (di_seq (de_ix hu (de_var 0) de_int (fun _ _ => rfl))) (blkOk_by (own := [("row", 4)]) (N := ["sight", "found", "pair", "link", "row"]) (sc := defScope s_weaker) (by decide +kernel)) (fun _ _ _ _ _ => (dg_name 4 (okAtW (by decide)) sc_weaker.nd rfl (by first | exact Or.inl rfl | exact Or.inr rfl))) (fun _ _ _ _ _ => dts_nil) (fun _ _ _ _ _ => (de_callG G_drop_number hr (by omega) (by rfl) (da_cons (de_var 0) (da_cons (de_var 4) da_nil))))) da_nil)))
    (dss_one (ds_ret (de_callTy xd_tuple (by rfl) B.n_tuple (by decide +kernel) (da_cons (de_var 1) da_nil))))))))
theorem good_weaker {sp : P1} {sp_drop_closed : P1} {sp_drop_link : P1} {sp_drop_tag : P1} {sp_drop_number : P1} (T : TopF K mg "weaker" "weaker" s_weaker ["sight"]) (B : Blt mg) (G_drop_closed : Good P w K mg base 2 "drop_closed" ["sight", "pair"] sp_drop_closed) (G_drop_link : Good P w K mg base 2 "drop_link" ["sight", "link"] sp_drop_link) (G_drop_tag : Good P w K mg base 2 "drop_tag" ["sight", "row"] sp_drop_tag) (G_drop_number : Good P w K mg base 2 "drop_number" ["sight", "row"] sp_drop_number) (len : ∀ ds h Q, sp ds h Q → ds.length = 1) (sat : ∀ ds h Q, sp ds h Q → rd_weaker sp_drop_closed sp_drop_link sp_drop_tag sp_drop_number (endN Q) (startD 5 ds) h) : Good P w K mg base 3 "weaker" ["sight"] sp :=
  good_ok T sc_weaker len (body_weaker B G_drop_closed G_drop_link G_drop_tag G_drop_number) sat
theorem body__law_plan_ties {sp__law_pop : P1} {sp__law_draw : P1} {sp__law_some : P1} {sp__law_shuffled : P1} (B : Blt mg) (G__law_pop : Good P w K mg base 2 "_law_pop" ["_law_d", "_law_row"] sp__law_pop) (G__law_draw : Good P w K mg base 1 "_law_draw" ["_law_d", "_law_many"] sp__law_draw) (G__law_some : Good P w K mg base 2 "_law_some" ["_law_d", "_law_row", "_law_least"] sp__law_some) (G__law_shuffled : Good P w K mg base 2 "_law_shuffled" ["_law_d", "_law_row"] sp__law_shuffled) (f : Addr) (cdv : Value) (A : Around) (outer : List Env) (s : Shared) (H : Hp) (E : XK) (hr : RoomG 2 (A.deeper (envOfC "_law_plan_ties" (defScope s__law_plan_ties) s.heap.objs.size f cdv))) :
    DSs (cxOf CX0 P w K mg base ["_law_d", "_law_h", "_law_pool_here", "_law_rich", "_law_everybody", "_law_rows", "_law_k", "_law_fronts", "_law_ends"] "_law_plan_ties" (defScope s__law_plan_ties) f cdv A outer s H E).nox (defBody s__law_plan_ties) (rd__law_plan_ties sp__law_pop sp__law_draw sp__law_some sp__law_shuffled) := by
  have hu := hr.r.units
  have hu5 : (A.deeper (envOfC "_law_plan_ties" (defScope s__law_plan_ties) s.heap.objs.size f cdv)).units + 65 < cLine := by have := hr.r.un; omega
  exact (dss_cons (ds_set 4 sc__law_plan_ties.nd rfl (by first | exact Or.inl rfl | exact Or.inr rfl) (de_op od_add (de_ix hu (de_var 1) de_str (fun _ _ => rfl)) (de_ix hu (de_var 1) de_str (fun _ _ => rfl))))
    (dss_cons (ds_set 5 sc__law_plan_ties.nd rfl (by first | exact Or.inl rfl | exact Or.inr rfl) (de_lst (da_cons (de_tup (da_cons (de_callG G__law_pop hr (by omega) (by rfl) (da_cons (de_var 0) (da_cons (de_var 2) da_nil))) (da_cons (de_callTy xd_tuple (by rfl) B.n_tuple (by decide +kernel) (da_cons (de_var 4) da_nil)) (da_cons (de_callTy xd_tuple (by rfl) B.n_tuple (by decide +kernel) (da_cons (de_ix hu (de_var 1) de_str (fun _ _ => rfl)) da_nil)) da_nil)))) da_nil)))
    (dss_cons (ds_expr (de_lm PySem.F.slot_list_append PySem.F.type_list_append xm_append (de_var 5) (da_cons (de_tup (da_cons (de_callG G__law_pop hr (by omega) (by rfl) (da_cons (de_var 0) (da_cons (de_var 2) da_nil))) (da_cons (de_callTy xd_tuple (by rfl) B.n_tuple (by decide +kernel) (da_cons (de_var 4) da_nil)) (da_cons (de_callTy xd_tuple (by rfl) B.n_tuple (by decide +kernel) (da_cons (de_op od_add (de_ix hu (de_var 1) de_str (fun _ _ => rfl)) (de_ix hu (de_var 1) de_str (fun _ _ => rfl))) da_nil)) da_nil)))) da_nil)))
    (dss_cons (ds_for PassesOwn.never (by rfl) (di_range1 (by rfl) B.n_range (da_cons (de_callG G__law_draw hr (by omega) (by rfl) (da_cons (de_var 0) (da_cons (de_op od_add de_int (de_var 3)) da_nil))) da_nil)) (dg_name 6 okAt0 sc__law_plan_ties.nd rfl (by first | exact Or.inl rfl | exact Or.inr rfl)) (dss_cons (ds_set 7 sc__law_plan_ties.nd rfl (by first | exact Or.inl rfl | exact Or.inr rfl) (de_callG G__law_some hr (by omega) (by rfl) (da_cons (de_var 0) (da_cons (de_var 4) (da_cons de_int da_nil)))))
    (dss_cons (ds_set 8 sc__law_plan_ties.nd rfl (by first | exact Or.inl rfl | exact Or.inr rfl) (de_callG G__law_some hr (by omega) (by rfl) (da_cons (de_var 0) (da_cons (de_op od_add (de_op od_add (de_ix hu (de_var 1) de_str (fun _ _ => rfl)) (de_ix hu (de_var 1) de_str (fun _ _ => rfl))) (de_ix hu (de_var 1) de_str (fun _ _ => rfl))) (da_cons de_int da_nil)))))
    (dss_one (ds_expr (de_lm PySem.F.slot_list_append PySem.F.type_list_append xm_append (de_var 5) (da_cons (de_tup (da_cons (de_callG G__law_pop hr (by omega) (by rfl) (da_cons (de_var 0) (da_cons (de_var 2) da_nil))) (da_cons (de_callTy xd_tuple (by rfl) B.n_tuple (by decide +kernel) (da_cons (de_var 7) da_nil)) (da_cons (de_callTy xd_tuple (by rfl) B.n_tuple (by decide +kernel) (da_cons (de_var 8) da_nil)) da_nil)))) da_nil)))))))
    (dss_one (ds_ret (de_callG G__law_shuffled hr (by omega) (by rfl) (da_cons (de_var 0) (da_cons (de_var 5) da_nil)))))))))
theorem good__law_plan_ties {sp : P1} {sp__law_pop : P1} {sp__law_draw : P1} {sp__law_some : P1} {sp__law_shuffled : P1} (T : TopF K mg "_law_plan_ties" "_law_plan_ties" s__law_plan_ties ["_law_d", "_law_h", "_law_pool_here", "_law_rich"]) (B : Blt mg) (G__law_pop : Good P w K mg base 2 "_law_pop" ["_law_d", "_law_row"] sp__law_pop) (G__law_draw : Good P w K mg base 1 "_law_draw" ["_law_d", "_law_many"] sp__law_draw) (G__law_some : Good P w K mg base 2 "_law_some" ["_law_d", "_law_row", "_law_least"] sp__law_some) (G__law_shuffled : Good P w K mg base 2 "_law_shuffled" ["_law_d", "_law_row"] sp__law_shuffled) (len : ∀ ds h Q, sp ds h Q → ds.length = 4) (sat : ∀ ds h Q, sp ds h Q → rd__law_plan_ties sp__law_pop sp__law_draw sp__law_some sp__law_shuffled (endN Q) (startD 9 ds) h) : Good P w K mg base 3 "_law_plan_ties" ["_law_d", "_law_h", "_law_pool_here", "_law_rich"] sp :=
  good_ok T sc__law_plan_ties len (body__law_plan_ties B G__law_pop G__law_draw G__law_some G__law_shuffled) sat
theorem body__law_plan_tests {sp__law_shuffled : P1} {sp__law_draw : P1} (B : Blt mg) (G__law_shuffled : Good P w K mg base 2 "_law_shuffled" ["_law_d", "_law_row"] sp__law_shuffled) (G__law_draw : Good P w K mg base 1 "_law_draw" ["_law_d", "_law_many"] sp__law_draw) (f : Addr) (cdv : Value) (A : Around) (outer : List Env) (s : Shared) (H : Hp) (E : XK) (hr : RoomG 2 (A.deeper (envOfC "_law_plan_tests" (defScope s__law_plan_tests) s.heap.objs.size f cdv))) :
    DSs (cxOf CX0 P w K mg base ["_law_d", "_law_marks_here", "_law_found", "_law_tag"] "_law_plan_tests" (defScope s__law_plan_tests) f cdv A outer s H E).nox (defBody s__law_plan_tests) (rd__law_plan_tests sp__law_shuffled sp__law_draw) := by
  have hu := hr.r.units
  have hu5 : (A.deeper (envOfC "_law_plan_tests" (defScope s__law_plan_tests) s.heap.objs.size f cdv)).units + 65 < cLine := by have := hr.r.un; omega
  exact (dss_cons (ds_set 2 sc__law_plan_tests.nd rfl (by first | exact Or.inl rfl | exact Or.inr rfl) (de_lst da_nil))
    (dss_cons (ds_for PassesOwn.never (by rfl) (di_seq (de_callG G__law_shuffled hr (by omega) (by rfl) (da_cons (de_var 0) (da_cons (de_var 1) da_nil)))) (dg_name 3 okAt0 sc__law_plan_tests.nd rfl (by first | exact Or.inl rfl | exact Or.inr rfl)) (dss_one (ds_if (dt_cmpR (od_eq hu) (de_callG G__law_draw hr (by omega) (by rfl) (da_cons (de_var 0) (da_cons de_int da_nil))) de_int (by rfl)) (dss_one (ds_expr (de_lm PySem.F.slot_list_append PySem.F.type_list_append xm_append (de_var 2) (da_cons (de_tup (da_cons (de_var 3) (da_cons (de_cmpR (od_eq hu) (de_callG G__law_draw hr (by omega) (by rfl) (da_cons (de_var 0) (da_cons de_int da_nil))) de_int (by rfl)) da_nil))) da_nil)))) dss_nil)))
    (dss_one (ds_ret (de_callTy xd_tuple (by rfl) B.n_tuple (by decide +kernel) (da_cons (de_var 2) da_nil))))))
theorem good__law_plan_tests {sp : P1} {sp__law_shuffled : P1} {sp__law_draw : P1} (T : TopF K mg "_law_plan_tests" "_law_plan_tests" s__law_plan_tests ["_law_d", "_law_marks_here"]) (B : Blt mg) (G__law_shuffled : Good P w K mg base 2 "_law_shuffled" ["_law_d", "_law_row"] sp__law_shuffled) (G__law_draw : Good P w K mg base 1 "_law_draw" ["_law_d", "_law_many"] sp__law_draw) (len : ∀ ds h Q, sp ds h Q → ds.length = 2) (sat : ∀ ds h Q, sp ds h Q → rd__law_plan_tests sp__law_shuffled sp__law_draw (endN Q) (startD 4 ds) h) : Good P w K mg base 3 "_law_plan_tests" ["_law_d", "_law_marks_here"] sp :=
  good_ok T sc__law_plan_tests len (body__law_plan_tests B G__law_shuffled G__law_draw) sat
theorem body__law_node_names {sp__law_pop : P1} (B : Blt mg) (G__law_pop : Good P w K mg base 2 "_law_pop" ["_law_d", "_law_row"] sp__law_pop) (f : Addr) (cdv : Value) (A : Around) (outer : List Env) (s : Shared) (H : Hp) (E : XK) (hr : RoomG 2 (A.deeper (envOfC "_law_node_names" (defScope s__law_node_names) s.heap.objs.size f cdv))) :
    DSs (cxOf CX0 P w K mg base ["_law_d", "_law_pool_here", "_law_many", "_law_found", "_law_k"] "_law_node_names" (defScope s__law_node_names) f cdv A outer s H E).nox (defBody s__law_node_names) (rd__law_node_names sp__law_pop) := by
  have hu := hr.r.units
  have hu5 : (A.deeper (envOfC "_law_node_names" (defScope s__law_node_names) s.heap.objs.size f cdv)).units + 65 < cLine := by have := hr.r.un; omega
  exact (dss_cons (ds_set 3 sc__law_node_names.nd rfl (by first | exact Or.inl rfl | exact Or.inr rfl) (de_lst da_nil))
    (dss_cons (ds_for PassesOwn.never (by rfl) (di_range1 (by rfl) B.n_range (da_cons (de_var 2) da_nil)) (dg_name 4 okAt0 sc__law_node_names.nd rfl (by first | exact Or.inl rfl | exact Or.inr rfl)) (dss_one (ds_if (dt_cmpR od_gt (de_callB xd_len (by rfl) B.n_len (by decide +kernel) (da_cons (de_var 1) da_nil)) de_int (by rfl)) (dss_one (ds_expr (de_lm PySem.F.slot_list_append PySem.F.type_list_append xm_append (de_var 3) (da_cons (de_callG G__law_pop hr (by omega) (by rfl) (da_cons (de_var 0) (da_cons (de_var 1) da_nil))) da_nil)))) (dss_one (ds_expr (de_lm PySem.F.slot_list_append PySem.F.type_list_append xm_append (de_var 3) (da_cons (de_op od_add de_str (de_callTy xd_str (by rfl) B.n_str (by decide +kernel) (da_cons (de_var 4) da_nil))) da_nil)))))))
    (dss_one (ds_ret (de_var 3)))))
theorem good__law_node_names {sp : P1} {sp__law_pop : P1} (T : TopF K mg "_law_node_names" "_law_node_names" s__law_node_names ["_law_d", "_law_pool_here", "_law_many"]) (B : Blt mg) (G__law_pop : Good P w K mg base 2 "_law_pop" ["_law_d", "_law_row"] sp__law_pop) (len : ∀ ds h Q, sp ds h Q → ds.length = 3) (sat : ∀ ds h Q, sp ds h Q → rd__law_node_names sp__law_pop (endN Q) (startD 5 ds) h) : Good P w K mg base 3 "_law_node_names" ["_law_d", "_law_pool_here", "_law_many"] sp :=
  good_ok T sc__law_node_names len (body__law_node_names B G__law_pop) sat
theorem body__law_drawn_nodes {sp__law_draw : P1} {sp__law_pick : P1} {sp__law_tags_of : P1} (B : Blt mg) (G__law_draw : Good P w K mg base 1 "_law_draw" ["_law_d", "_law_many"] sp__law_draw) (G__law_pick : Good P w K mg base 2 "_law_pick" ["_law_d", "_law_row"] sp__law_pick) (G__law_tags_of : Good P w K mg base 1 "_law_tags_of" ["_law_h", "_law_kind"] sp__law_tags_of) (f : Addr) (cdv : Value) (A : Around) (outer : List Env) (s : Shared) (H : Hp) (E : XK) (hr : RoomG 2 (A.deeper (envOfC "_law_drawn_nodes" (defScope s__law_drawn_nodes) s.heap.objs.size f cdv))) :
    DSs (cxOf CX0 P w K mg base ["_law_d", "_law_h", "_law_names", "_law_found", "_law_k", "_law_way", "_law_sort", "_law_kind", "_law_tags", "_law_tag"] "_law_drawn_nodes" (defScope s__law_drawn_nodes) f cdv A outer s H E).nox (defBody s__law_drawn_nodes) (rd__law_drawn_nodes sp__law_draw sp__law_pick sp__law_tags_of) := by
  have hu := hr.r.units
  have hu5 : (A.deeper (envOfC "_law_drawn_nodes" (defScope s__law_drawn_nodes) s.heap.objs.size f cdv)).units + 65 < cLine := by have := hr.r.un; omega
  exact (dss_cons (ds_set 3 sc__law_drawn_nodes.nd rfl (by first | exact Or.inl rfl | exact Or.inr rfl) (de_lst da_nil))
    (dss_cons (ds_for PassesOwn.never (by rfl) (di_range1 (by rfl) B.n_range (da_cons (de_callB xd_len (by rfl) B.n_len (by decide +kernel) (da_cons (de_var 2) da_nil)) da_nil)) (dg_name 4 okAt0 sc__law_drawn_nodes.nd rfl (by first | exact Or.inl rfl | exact Or.inr rfl)) (dss_cons (ds_set 5 sc__law_drawn_nodes.nd rfl (by first | exact Or.inl rfl | exact Or.inr rfl) (de_ifExp (dt_cmpR od_lt (de_var 4) de_int (by rfl)) (de_var 4) (de_callG G__law_draw hr (by omega) (by rfl) (da_cons (de_var 0) (da_cons de_int da_nil)))))
    (dss_cons (ds_set 6 sc__law_drawn_nodes.nd rfl (by first | exact Or.inl rfl | exact Or.inr rfl) (de_ifExp (dt_cmpR (od_eq hu) (de_var 5) de_int (by rfl)) de_str (de_ifExp (dt_cmpR (od_eq hu) (de_var 5) de_int (by rfl)) de_str de_str)))
    (dss_cons (ds_set 7 sc__law_drawn_nodes.nd rfl (by first | exact Or.inl rfl | exact Or.inr rfl) (de_ifExp (dt_cmpR od_lt (de_var 4) de_int (by rfl)) (de_ix hu (de_ix hu (de_var 1) (de_var 6) (fun _ _ => rfl)) de_int (fun _ _ => rfl)) (de_callG G__law_pick hr (by omega) (by rfl) (da_cons (de_var 0) (da_cons (de_ix hu (de_var 1) (de_var 6) (fun _ _ => rfl)) da_nil)))))
    (dss_cons (ds_setLc 8 (own := [("_law_tag", 9)]) (by rfl) sc__law_drawn_nodes.nd rfl rfl (sw_true rfl rfl rfl (by decide +kernel)) (di_seq (de_callG G__law_tags_of hr (by omega) (by rfl) (da_cons (de_var 1) (da_cons (de_var 7) da_nil)))) (blkOk_by (own := [("_law_tag", 9)]) (N := ["_law_d", "_law_h", "_law_names", "_law_found", "_law_k", "_law_way", "_law_sort", "_law_kind", "_law_tags", "_law_tag"]) (sc := defScope s__law_drawn_nodes) (by decide +kernel)) (fun _ _ _ _ _ => (dg_name 9 (okAtW (by decide)) sc__law_drawn_nodes.nd rfl (by first | exact Or.inl rfl | exact Or.inr rfl))) (fun _ _ _ _ _ => (dts_one (dt_cmpR (od_eq hu) (de_callG G__law_draw hr (by omega) (by rfl) (da_cons (de_var 0) (da_cons de_int da_nil))) de_int (by rfl)))) (fun _ _ _ _ _ => (de_var 9)))
    (dss_one (ds_expr (de_lm PySem.F.slot_list_append PySem.F.type_list_append xm_append (de_var 3) (da_cons (de_tup (da_cons (de_ix hu (de_var 2) (de_var 4) (fun _ _ => rfl)) (da_cons (de_var 7) (da_cons (de_callTy xd_tuple (by rfl) B.n_tuple (by decide +kernel) (da_cons (de_var 8) da_nil)) da_nil)))) da_nil)))))))))
    (dss_one (ds_ret (de_callTy xd_tuple (by rfl) B.n_tuple (by decide +kernel) (da_cons (de_callB (xd_sorted hu rfl) (by rfl) B.n_sorted (by decide +kernel) (da_cons (de_var 3) da_nil)) da_nil))))))
theorem good__law_drawn_nodes {sp : P1} {sp__law_draw : P1} {sp__law_pick : P1} {sp__law_tags_of : P1} (T : TopF K mg "_law_drawn_nodes" "_law_drawn_nodes" s__law_drawn_nodes ["_law_d", "_law_h", "_law_names"]) (B : Blt mg) (G__law_draw : Good P w K mg base 1 "_law_draw" ["_law_d", "_law_many"] sp__law_draw) (G__law_pick : Good P w K mg base 2 "_law_pick" ["_law_d", "_law_row"] sp__law_pick) (G__law_tags_of : Good P w K mg base 1 "_law_tags_of" ["_law_h", "_law_kind"] sp__law_tags_of) (len : ∀ ds h Q, sp ds h Q → ds.length = 3) (sat : ∀ ds h Q, sp ds h Q → rd__law_drawn_nodes sp__law_draw sp__law_pick sp__law_tags_of (endN Q) (startD 10 ds) h) : Good P w K mg base 3 "_law_drawn_nodes" ["_law_d", "_law_h", "_law_names"] sp :=
  good_ok T sc__law_drawn_nodes len (body__law_drawn_nodes B G__law_draw G__law_pick G__law_tags_of) sat
theorem body__law_drawn_links {sp__law_kinds : P1} {sp__law_pick : P1} {sp__law_allowed : P1} {sp__law_letter : P1} {sp__law_standing : P1} (B : Blt mg) (G__law_kinds : Good P w K mg base 1 "_law_kinds" ["_law_nodes"] sp__law_kinds) (G__law_pick : Good P w K mg base 2 "_law_pick" ["_law_d", "_law_row"] sp__law_pick) (G__law_allowed : Good P w K mg base 2 "_law_allowed" ["_law_h", "_law_standing_here", "_law_letter_here"] sp__law_allowed) (G__law_letter : Good P w K mg base 1 "_law_letter" ["_law_h", "_law_kinds_here", "_law_tie", "_law_end"] sp__law_letter) (G__law_standing : Good P w K mg base 1 "_law_standing" ["_law_h", "_law_kinds_here", "_law_name"] sp__law_standing) (f : Addr) (cdv : Value) (A : Around) (outer : List Env) (s : Shared) (H : Hp) (E : XK) (hr : RoomG 2 (A.deeper (envOfC "_law_drawn_links" (defScope s__law_drawn_links) s.heap.objs.size f cdv))) :
    DSs (cxOf CX0 P w K mg base ["_law_d", "_law_h", "_law_nodes", "_law_many", "_law_kinds_here", "_law_fronts", "_law_groups", "_law_ends", "_law_found", "_law_k", "_law_node", "_law_end", "_law_tie", "_law_link", "_law_row"] "_law_drawn_links" (defScope s__law_drawn_links) f cdv A outer s H E).nox (defBody s__law_drawn_links) (rd__law_drawn_links sp__law_kinds sp__law_pick sp__law_allowed sp__law_letter sp__law_standing) := by
  have hu := hr.r.units
  have hu5 : (A.deeper (envOfC "_law_drawn_links" (defScope s__law_drawn_links) s.heap.objs.size f cdv)).units + 65 < cLine := by have := hr.r.un; omega
  exact (dss_cons (ds_set 4 sc__law_drawn_links.nd rfl (by first | exact Or.inl rfl | exact Or.inr rfl) (de_callG G__law_kinds hr (by omega) (by rfl) (da_cons (de_var 2) da_nil)))
    (dss_cons (ds_setLc 5 (own := [("_law_row", 14)]) (by rfl) sc__law_drawn_links.nd rfl rfl (sw_true rfl rfl rfl (by decide +kernel)) (di_seq (de_var 2)) (blkOk_by (own := [("_law_row", 14)]) (N := ["_law_d", "_law_h", "_law_nodes", "_law_many", "_law_kinds_here", "_law_fronts", "_law_groups", "_law_ends", "_law_found", "_law_k", "_law_node", "_law_end", "_law_tie", "_law_link", "_law_row"]) (sc := defScope s__law_drawn_links) (by decide +kernel)) (fun _ _ _ _ _ => (dg_name 14 (okAtW (by decide)) sc__law_drawn_links.nd rfl (by first | exact Or.inl rfl | exact Or.inr rfl))) (fun _ _ _ _ _ => (dts_one (dt_cmpR (od_notIn hu5) (de_ix hu (de_var 14) de_int (fun _ _ => rfl)) (de_ix hu (de_var 1) de_str (fun _ _ => rfl)) (by rfl)))) (fun _ _ _ _ _ => (de_ix hu (de_var 14) de_int (fun _ _ => rfl))))
    (dss_cons (ds_setLc 6 (own := [("_law_row", 14)]) (by rfl) sc__law_drawn_links.nd rfl rfl (sw_true rfl rfl rfl (by decide +kernel)) (di_seq (de_var 2)) (blkOk_by (own := [("_law_row", 14)]) (N := ["_law_d", "_law_h", "_law_nodes", "_law_many", "_law_kinds_here", "_law_fronts", "_law_groups", "_law_ends", "_law_found", "_law_k", "_law_node", "_law_end", "_law_tie", "_law_link", "_law_row"]) (sc := defScope s__law_drawn_links) (by decide +kernel)) (fun _ _ _ _ _ => (dg_name 14 (okAtW (by decide)) sc__law_drawn_links.nd rfl (by first | exact Or.inl rfl | exact Or.inr rfl))) (fun _ _ _ _ _ => (dts_one (dt_cmpR (od_in hu5) (de_ix hu (de_var 14) de_int (fun _ _ => rfl)) (de_ix hu (de_var 1) de_str (fun _ _ => rfl)) (by rfl)))) (fun _ _ _ _ _ => (de_ix hu (de_var 14) de_int (fun _ _ => rfl))))
    (dss_cons (ds_set 7 sc__law_drawn_links.nd rfl (by first | exact Or.inl rfl | exact Or.inr rfl) (de_op od_add (de_op od_add (de_lc (own := [("_law_row", 14)]) (by rfl) sc__law_drawn_links.nd (di_seq (de_var 2)) (blkOk_by (own := [("_law_row", 14)]) (N := ["_law_d", "_law_h", "_law_nodes", "_law_many", "_law_kinds_here", "_law_fronts", "_law_groups", "_law_ends", "_law_found", "_law_k", "_law_node", "_law_end", "_law_tie", "_law_link", "_law_row"]) (sc := defScope s__law_drawn_links) (by decide +kernel)) (fun _ _ _ _ _ => (dg_name 14 (okAtW (by decide)) sc__law_drawn_links.nd rfl (by first | exact Or.inl rfl | exact Or.inr rfl))) (fun _ _ _ _ _ => (dts_one (dt_cmpR (od_notIn hu5) (de_ix hu (de_var 14) de_int (fun _ _ => rfl)) (de_ix hu (de_var 1) de_str (fun _ _ => rfl)) (by rfl)))) (fun _ _ _ _ _ => (de_ix hu (de_var 14) de_int (fun _ _ => rfl)))) (de_ix hu (de_var 1) de_str (fun _ _ => rfl))) (de_var 6)))
    (dss_cons (ds_set 8 sc__law_drawn_links.nd rfl (by first | exact Or.inl rfl | exact Or.inr rfl) (de_lst da_nil))
    (dss_cons (ds_for PassesOwn.never (by rfl) (di_range1 (by rfl) B.n_range (da_cons (de_var 3) da_nil)) (dg_name 9 okAt0 sc__law_drawn_links.nd rfl (by first | exact Or.inl rfl | exact Or.inr rfl)) (dss_cons (ds_set 10 sc__law_drawn_links.nd rfl (by first | exact Or.inl rfl | exact Or.inr rfl) (de_callG G__law_pick hr (by omega) (by rfl) (da_cons (de_var 0) (da_cons (de_var 5) da_nil))))
    (dss_cons (ds_set 11 sc__law_drawn_links.nd rfl (by first | exact Or.inl rfl | exact Or.inr rfl) (de_callG G__law_pick hr (by omega) (by rfl) (da_cons (de_var 0) (da_cons (de_var 7) da_nil))))
    (dss_cons (ds_set 12 sc__law_drawn_links.nd rfl (by first | exact Or.inl rfl | exact Or.inr rfl) (de_ix hu (de_callG G__law_pick hr (by omega) (by rfl) (da_cons (de_var 0) (da_cons (de_ix hu (de_var 1) de_str (fun _ _ => rfl)) da_nil))) de_int (fun _ _ => rfl)))
    (dss_cons (ds_set 13 sc__law_drawn_links.nd rfl (by first | exact Or.inl rfl | exact Or.inr rfl) (de_tup (da_cons (de_var 10) (da_cons (de_var 12) (da_cons (de_var 11) da_nil)))))
    (dss_one (ds_if (dt_w (dw_and (dt_cmpR (od_notIn hu5) (de_var 13) (de_var 8) (by rfl)) (dw_and1 (dt_tru (de_callG G__law_allowed hr (by omega) (by rfl) (da_cons (de_var 1) (da_cons (de_callG G__law_standing hr (by omega) (by rfl) (da_cons (de_var 1) (da_cons (de_var 4) (da_cons (de_var 10) da_nil)))) (da_cons (de_callG G__law_letter hr (by omega) (by rfl) (da_cons (de_var 1) (da_cons (de_var 4) (da_cons (de_var 12) (da_cons (de_var 11) da_nil))))) da_nil)))))))) (dss_one (ds_expr (de_lm PySem.F.slot_list_append PySem.F.type_list_append xm_append (de_var 8) (da_cons (de_var 13) da_nil)))) dss_nil)))))))
    (dss_one (ds_ret (de_callTy xd_tuple (by rfl) B.n_tuple (by decide +kernel) (da_cons (de_callB (xd_sorted hu rfl) (by rfl) B.n_sorted (by decide +kernel) (da_cons (de_var 8) da_nil)) da_nil))))))))))
theorem good__law_drawn_links {sp : P1} {sp__law_kinds : P1} {sp__law_pick : P1} {sp__law_allowed : P1} {sp__law_letter : P1} {sp__law_standing : P1} (T : TopF K mg "_law_drawn_links" "_law_drawn_links" s__law_drawn_links ["_law_d", "_law_h", "_law_nodes", "_law_many"]) (B : Blt mg) (G__law_kinds : Good P w K mg base 1 "_law_kinds" ["_law_nodes"] sp__law_kinds) (G__law_pick : Good P w K mg base 2 "_law_pick" ["_law_d", "_law_row"] sp__law_pick) (G__law_allowed : Good P w K mg base 2 "_law_allowed" ["_law_h", "_law_standing_here", "_law_letter_here"] sp__law_allowed) (G__law_letter : Good P w K mg base 1 "_law_letter" ["_law_h", "_law_kinds_here", "_law_tie", "_law_end"] sp__law_letter) (G__law_standing : Good P w K mg base 1 "_law_standing" ["_law_h", "_law_kinds_here", "_law_name"] sp__law_standing) (len : ∀ ds h Q, sp ds h Q → ds.length = 4) (sat : ∀ ds h Q, sp ds h Q → rd__law_drawn_links sp__law_kinds sp__law_pick sp__law_allowed sp__law_letter sp__law_standing (endN Q) (startD 15 ds) h) : Good P w K mg base 3 "_law_drawn_links" ["_law_d", "_law_h", "_law_nodes", "_law_many"] sp :=
  good_ok T sc__law_drawn_links len (body__law_drawn_links B G__law_kinds G__law_pick G__law_allowed G__law_letter G__law_standing) sat
theorem body__law_drawn_numbers {sp__law_numbers_of : P1} {sp__law_draw : P1} {sp__law_pick : P1} (B : Blt mg) (G__law_numbers_of : Good P w K mg base 1 "_law_numbers_of" ["_law_h", "_law_kind"] sp__law_numbers_of) (G__law_draw : Good P w K mg base 1 "_law_draw" ["_law_d", "_law_many"] sp__law_draw) (G__law_pick : Good P w K mg base 2 "_law_pick" ["_law_d", "_law_row"] sp__law_pick) (f : Addr) (cdv : Value) (A : Around) (outer : List Env) (s : Shared) (H : Hp) (E : XK) (hr : RoomG 2 (A.deeper (envOfC "_law_drawn_numbers" (defScope s__law_drawn_numbers) s.heap.objs.size f cdv))) :
    DSs (cxOf CX0 P w K mg base ["_law_d", "_law_h", "_law_nodes", "_law_found", "_law_name", "_law_kind", "_law_tags", "_law_field", "_law_worth"] "_law_drawn_numbers" (defScope s__law_drawn_numbers) f cdv A outer s H E).nox (defBody s__law_drawn_numbers) (rd__law_drawn_numbers sp__law_numbers_of sp__law_draw sp__law_pick) := by
  have hu := hr.r.units
  have hu5 : (A.deeper (envOfC "_law_drawn_numbers" (defScope s__law_drawn_numbers) s.heap.objs.size f cdv)).units + 65 < cLine := by have := hr.r.un; omega
  exact (dss_cons (ds_set 3 sc__law_drawn_numbers.nd rfl (by first | exact Or.inl rfl | exact Or.inr rfl) (de_lst da_nil))
    (dss_cons (ds_for PassesOwn.never (by rfl) (di_seq (de_var 2)) (dg_tup (by rfl) (dgs_cons (dg_name 4 okAt0 sc__law_drawn_numbers.nd rfl (by first | exact Or.inl rfl | exact Or.inr rfl)) (dgs_cons (dg_name 5 okAt0 sc__law_drawn_numbers.nd rfl (by first | exact Or.inl rfl | exact Or.inr rfl)) (dgs_cons (dg_name 6 okAt0 sc__law_drawn_numbers.nd rfl (by first | exact Or.inl rfl | exact Or.inr rfl)) dgs_nil)))) (dss_one (ds_for PassesOwn.never (by rfl) (di_seq (de_callG G__law_numbers_of hr (by omega) (by rfl) (da_cons (de_var 1) (da_cons (de_var 5) da_nil)))) (dg_name 7 okAt0 sc__law_drawn_numbers.nd rfl (by first | exact Or.inl rfl | exact Or.inr rfl)) (dss_cons (ds_set 8 sc__law_drawn_numbers.nd rfl (by first | exact Or.inl rfl | exact Or.inr rfl) (de_ifExp (dt_cmpR od_gt (de_callG G__law_draw hr (by omega) (by rfl) (da_cons (de_var 0) (da_cons de_int da_nil))) de_int (by rfl)) (de_callG G__law_draw hr (by omega) (by rfl) (da_cons (de_var 0) (da_cons de_int da_nil))) (de_callG G__law_pick hr (by omega) (by rfl) (da_cons (de_var 0) (da_cons (de_lst (da_cons de_int (da_cons de_int (da_cons (de_op od_add de_int (de_callG G__law_draw hr (by omega) (by rfl) (da_cons (de_var 0) (da_cons de_int da_nil)))) da_nil)))) da_nil)))))
    (dss_one (ds_expr (de_lm PySem.F.slot_list_append PySem.F.type_list_append xm_append (de_var 3) (da_cons (de_tup (da_cons (de_var 4) (da_cons (de_var 7) (da_cons (de_var 8) da_nil)))) da_nil))))))))
    (dss_one (ds_ret (de_callTy xd_tuple (by rfl) B.n_tuple (by decide +kernel) (da_cons (de_callB (xd_sorted hu rfl) (by rfl) B.n_sorted (by decide +kernel) (da_cons (de_var 3) da_nil)) da_nil))))))
theorem good__law_drawn_numbers {sp : P1} {sp__law_numbers_of : P1} {sp__law_draw : P1} {sp__law_pick : P1} (T : TopF K mg "_law_drawn_numbers" "_law_drawn_numbers" s__law_drawn_numbers ["_law_d", "_law_h", "_law_nodes"]) (B : Blt mg) (G__law_numbers_of : Good P w K mg base 1 "_law_numbers_of" ["_law_h", "_law_kind"] sp__law_numbers_of) (G__law_draw : Good P w K mg base 1 "_law_draw" ["_law_d", "_law_many"] sp__law_draw) (G__law_pick : Good P w K mg base 2 "_law_pick" ["_law_d", "_law_row"] sp__law_pick) (len : ∀ ds h Q, sp ds h Q → ds.length = 3) (sat : ∀ ds h Q, sp ds h Q → rd__law_drawn_numbers sp__law_numbers_of sp__law_draw sp__law_pick (endN Q) (startD 9 ds) h) : Good P w K mg base 3 "_law_drawn_numbers" ["_law_d", "_law_h", "_law_nodes"] sp :=
  good_ok T sc__law_drawn_numbers len (body__law_drawn_numbers B G__law_numbers_of G__law_draw G__law_pick) sat
theorem body__law_drawn_sight {sp__law_full_sight : P1} {sp__law_draw : P1} (B : Blt mg) (G__law_full_sight : Good P w K mg base 2 "_law_full_sight" ["_law_h", "_law_world_here"] sp__law_full_sight) (G__law_draw : Good P w K mg base 1 "_law_draw" ["_law_d", "_law_many"] sp__law_draw) (f : Addr) (cdv : Value) (A : Around) (outer : List Env) (s : Shared) (H : Hp) (E : XK) (hr : RoomG 2 (A.deeper (envOfC "_law_drawn_sight" (defScope s__law_drawn_sight) s.heap.objs.size f cdv))) :
    DSs (cxOf CX0 P w K mg base ["_law_d", "_law_h", "_law_world_here", "_law_share", "_law_whole", "_law_closed", "_law_links", "_law_tags", "_law_numbers", "_law_row"] "_law_drawn_sight" (defScope s__law_drawn_sight) f cdv A outer s H E).nox (defBody s__law_drawn_sight) (rd__law_drawn_sight sp__law_full_sight sp__law_draw) := by
  have hu := hr.r.units
  have hu5 : (A.deeper (envOfC "_law_drawn_sight" (defScope s__law_drawn_sight) s.heap.objs.size f cdv)).units + 65 < cLine := by have := hr.r.un; omega
  exact (dss_cons (ds_set 4 sc__law_drawn_sight.nd rfl (by first | exact Or.inl rfl | exact Or.inr rfl) (de_callG G__law_full_sight hr (by omega) (by rfl) (da_cons (de_var 1) (da_cons (de_var 2) da_nil))))
    (dss_cons (ds_set 5 sc__law_drawn_sight.nd rfl (by first | exact Or.inl rfl | exact Or.inr rfl) (de_callTy xd_tuple (by rfl) B.n_tuple (by decide +kernel) (da_cons (de_lc (own := [("_law_row", 9)]) (by rfl) sc__law_drawn_sight.nd (di_seq (de_ix hu (de_var 4) de_int (fun _ _ => rfl))) (blkOk_by (own := [("_law_row", 9)]) (N := ["_law_d", "_law_h", "_law_world_here", "_law_share", "_law_whole", "_law_closed", "_law_links", "_law_tags", "_law_numbers", "_law_row"]) (sc := defScope s__law_drawn_sight) (by decide +kernel)) (fun _ _ _ _ _ => (dg_name 9 (okAtW (by decide)) sc__law_drawn_sight.nd rfl (by first | exact Or.inl rfl | exact Or.inr rfl))) (fun _ _ _ _ _ => (dts_one (dt_cmpR od_gt (de_callG G__law_draw hr (by omega) (by rfl) (da_cons (de_var 0) (da_cons (de_var 3) da_nil))) de_int (by rfl)))) (fun _ _ _ _ _ => (de_var 9))) da_nil)))
    (dss_cons (ds_set 6 sc__law_drawn_sight.nd rfl (by first | exact Or.inl rfl | exact Or.inr rfl) (de_callTy xd_tuple (by rfl) B.n_tuple (by decide +kernel) (da_cons (de_lc (own := [("_law_row", 9)]) (by rfl) sc__law_drawn_sight.nd (di_seq (de_ix hu (de_var 4) de_int (fun _ _ => rfl))) (blkOk_by (own := [("_law_row", 9)]) (N := ["_law_d", "_law_h", "_law_world_here", "_law_share", "_law_whole", "_law_closed", "_law_links", "_law_tags", "_law_numbers", "_law_row"]) (sc := defScope s__law_drawn_sight) (by decide +kernel)) (fun _ _ _ _ _ => (dg_name 9 (okAtW (by decide)) sc__law_drawn_sight.nd rfl (by first | exact Or.inl rfl | exact Or.inr rfl))) (fun _ _ _ _ _ => (dts_one (dt_w (dw_or (dt_cmpR (od_in hu5) (de_slice (de_var 9) do_none (do_some de_int)) (de_var 5) (by rfl)) (dw_or1 (dt_cmpR od_gt (de_callG G__law_draw hr (by omega) (by rfl) (da_cons (de_var 0) (da_cons (de_var 3) da_nil))) de_int (by rfl))))))) (fun _ _ _ _ _ => (de_var 9))) da_nil)))
    (dss_cons (ds_set 7 sc__law_drawn_sight.nd rfl (by first | exact Or.inl rfl | exact Or.inr rfl) (de_callTy xd_tuple (by rfl) B.n_tuple (by decide +kernel) (da_cons (de_lc (own := [("_law_row", 9)]) (by rfl) sc__law_drawn_sight.nd (di_seq (de_ix hu (de_var 4) de_int (fun _ _ => rfl))) (blkOk_by (own := [("_law_row", 9)]) (N := ["_law_d", "_law_h", "_law_world_here", "_law_share", "_law_whole", "_law_closed", "_law_links", "_law_tags", "_law_numbers", "_law_row"]) (sc := defScope s__law_drawn_sight) (by decide +kernel)) (fun _ _ _ _ _ => (dg_name 9 (okAtW (by decide)) sc__law_drawn_sight.nd rfl (by first | exact Or.inl rfl | exact Or.inr rfl))) (fun _ _ _ _ _ => (dts_one (dt_cmpR od_gt (de_callG G__law_draw hr (by omega) (by rfl) (da_cons (de_var 0) (da_cons (de_var 3) da_nil))) de_int (by rfl)))) (fun _ _ _ _ _ => (de_var 9))) da_nil)))
    (dss_cons (ds_set 8 sc__law_drawn_sight.nd rfl (by first | exact Or.inl rfl | exact Or.inr rfl) (de_callTy xd_tuple (by rfl) B.n_tuple (by decide +kernel) (da_cons (de_lc (own := [("_law_row", 9)]) (by rfl) sc__law_drawn_sight.nd (di_seq (de_ix hu (de_var 4) de_int (fun _ _ => rfl))) (blkOk_by (own := [("_law_row", 9)]) (N := ["_law_d", "_law_h", "_law_world_here", "_law_share", "_law_whole", "_law_closed", "_law_links", "_law_tags", "_law_numbers", "_law_row"]) (sc := defScope s__law_drawn_sight) (by decide +kernel)) (fun _ _ _ _ _ => (dg_name 9 (okAtW (by decide)) sc__law_drawn_sight.nd rfl (by first | exact Or.inl rfl | exact Or.inr rfl))) (fun _ _ _ _ _ => (dts_one (dt_cmpR od_gt (de_callG G__law_draw hr (by omega) (by rfl) (da_cons (de_var 0) (da_cons (de_var 3) da_nil))) de_int (by rfl)))) (fun _ _ _ _ _ => (de_var 9))) da_nil)))
    (dss_one (ds_ret (de_tup (da_cons (de_ix hu (de_var 4) de_int (fun _ _ => rfl)) (da_cons (de_var 6) (da_cons (de_var 5) (da_cons (de_var 7) (da_cons (de_var 8) da_nil)))))))))))))
theorem good__law_drawn_sight {sp : P1} {sp__law_full_sight : P1} {sp__law_draw : P1} (T : TopF K mg "_law_drawn_sight" "_law_drawn_sight" s__law_drawn_sight ["_law_d", "_law_h", "_law_world_here", "_law_share"]) (B : Blt mg) (G__law_full_sight : Good P w K mg base 2 "_law_full_sight" ["_law_h", "_law_world_here"] sp__law_full_sight) (G__law_draw : Good P w K mg base 1 "_law_draw" ["_law_d", "_law_many"] sp__law_draw) (len : ∀ ds h Q, sp ds h Q → ds.length = 4) (sat : ∀ ds h Q, sp ds h Q → rd__law_drawn_sight sp__law_full_sight sp__law_draw (endN Q) (startD 10 ds) h) : Good P w K mg base 3 "_law_drawn_sight" ["_law_d", "_law_h", "_law_world_here", "_law_share"] sp :=
  good_ok T sc__law_drawn_sight len (body__law_drawn_sight B G__law_full_sight G__law_draw) sat
theorem body__law_plan {sp__law_draw : P1} {sp__law_pop : P1} {sp__law_some : P1} {sp__law_plan_ties : P1} {sp__law_marks : P1} {sp__law_plan_tests : P1} {sp__law_pick : P1} (B : Blt mg) (G__law_draw : Good P w K mg base 1 "_law_draw" ["_law_d", "_law_many"] sp__law_draw) (G__law_pop : Good P w K mg base 2 "_law_pop" ["_law_d", "_law_row"] sp__law_pop) (G__law_some : Good P w K mg base 2 "_law_some" ["_law_d", "_law_row", "_law_least"] sp__law_some) (G__law_plan_ties : Good P w K mg base 3 "_law_plan_ties" ["_law_d", "_law_h", "_law_pool_here", "_law_rich"] sp__law_plan_ties) (G__law_marks : Good P w K mg base 1 "_law_marks" ["_law_h"] sp__law_marks) (G__law_plan_tests : Good P w K mg base 3 "_law_plan_tests" ["_law_d", "_law_marks_here"] sp__law_plan_tests) (G__law_pick : Good P w K mg base 2 "_law_pick" ["_law_d", "_law_row"] sp__law_pick) (f : Addr) (cdv : Value) (A : Around) (outer : List Env) (s : Shared) (H : Hp) (E : XK) (hr : RoomG 3 (A.deeper (envOfC "_law_plan" (defScope s__law_plan) s.heap.objs.size f cdv))) :
    DSs (cxOf CX0 P w K mg base ["_law_d", "_law_pool_here", "_law_rich", "_law_h", "_law_ends", "_law_marks_here", "_law_k"] "_law_plan" (defScope s__law_plan) f cdv A outer s H E).nox (defBody s__law_plan) (rd__law_plan sp__law_draw sp__law_pop sp__law_some sp__law_plan_ties sp__law_marks sp__law_plan_tests sp__law_pick) := by
  have hu := hr.r.units
  have hu5 : (A.deeper (envOfC "_law_plan" (defScope s__law_plan) s.heap.objs.size f cdv)).units + 65 < cLine := by have := hr.r.un; omega
  exact (dss_cons (ds_set 3 sc__law_plan.nd rfl (by first | exact Or.inl rfl | exact Or.inr rfl) de_dic0)
    (dss_cons (ds_asg (de_lc (own := [("_law_k", 6)]) (by rfl) sc__law_plan.nd (di_range1 (by rfl) B.n_range (da_cons (de_op od_add de_int (de_callG G__law_draw hr (by omega) (by rfl) (da_cons (de_var 0) (da_cons (de_op od_add de_int (de_op od_fdiv (de_var 2) de_int)) da_nil)))) da_nil)) (blkOk_by (own := [("_law_k", 6)]) (N := ["_law_d", "_law_pool_here", "_law_rich", "_law_h", "_law_ends", "_law_marks_here", "_law_k"]) (sc := defScope s__law_plan) (by decide +kernel)) (fun _ _ _ _ _ => (dg_name 6 (okAtW (by decide)) sc__law_plan.nd rfl (by first | exact Or.inl rfl | exact Or.inr rfl))) (fun _ _ _ _ _ => dts_nil) (fun _ _ _ _ _ => (de_callG G__law_pop hr (by omega) (by rfl) (da_cons (de_var 0) (da_cons (de_var 1) da_nil))))) (dg_sub hu (de_var 3) de_str))
    (dss_cons (ds_asg (de_lc (own := [("_law_k", 6)]) (by rfl) sc__law_plan.nd (di_range1 (by rfl) B.n_range (da_cons (de_op od_add de_int (de_callG G__law_draw hr (by omega) (by rfl) (da_cons (de_var 0) (da_cons (de_op od_add de_int (de_op od_fdiv (de_var 2) de_int)) da_nil)))) da_nil)) (blkOk_by (own := [("_law_k", 6)]) (N := ["_law_d", "_law_pool_here", "_law_rich", "_law_h", "_law_ends", "_law_marks_here", "_law_k"]) (sc := defScope s__law_plan) (by decide +kernel)) (fun _ _ _ _ _ => (dg_name 6 (okAtW (by decide)) sc__law_plan.nd rfl (by first | exact Or.inl rfl | exact Or.inr rfl))) (fun _ _ _ _ _ => dts_nil) (fun _ _ _ _ _ => (de_callG G__law_pop hr (by omega) (by rfl) (da_cons (de_var 0) (da_cons (de_var 1) da_nil))))) (dg_sub hu (de_var 3) de_str))
    (dss_cons (ds_asg (de_lc (own := [("_law_k", 6)]) (by rfl) sc__law_plan.nd (di_range1 (by rfl) B.n_range (da_cons (de_op od_add de_int (de_callG G__law_draw hr (by omega) (by rfl) (da_cons (de_var 0) (da_cons (de_op od_add de_int (de_op od_fdiv (de_var 2) de_int)) da_nil)))) da_nil)) (blkOk_by (own := [("_law_k", 6)]) (N := ["_law_d", "_law_pool_here", "_law_rich", "_law_h", "_law_ends", "_law_marks_here", "_law_k"]) (sc := defScope s__law_plan) (by decide +kernel)) (fun _ _ _ _ _ => (dg_name 6 (okAtW (by decide)) sc__law_plan.nd rfl (by first | exact Or.inl rfl | exact Or.inr rfl))) (fun _ _ _ _ _ => dts_nil) (fun _ _ _ _ _ => (de_callG G__law_pop hr (by omega) (by rfl) (da_cons (de_var 0) (da_cons (de_var 1) da_nil))))) (dg_sub hu (de_var 3) de_str))
    (dss_cons (ds_asg (de_lc (own := [("_law_k", 6)]) (by rfl) sc__law_plan.nd (di_range1 (by rfl) B.n_range (da_cons (de_callG G__law_draw hr (by omega) (by rfl) (da_cons (de_var 0) (da_cons (de_op od_add de_int (de_op od_fdiv (de_var 2) de_int)) da_nil))) da_nil)) (blkOk_by (own := [("_law_k", 6)]) (N := ["_law_d", "_law_pool_here", "_law_rich", "_law_h", "_law_ends", "_law_marks_here", "_law_k"]) (sc := defScope s__law_plan) (by decide +kernel)) (fun _ _ _ _ _ => (dg_name 6 (okAtW (by decide)) sc__law_plan.nd rfl (by first | exact Or.inl rfl | exact Or.inr rfl))) (fun _ _ _ _ _ => dts_nil) (fun _ _ _ _ _ => (de_callG G__law_pop hr (by omega) (by rfl) (da_cons (de_var 0) (da_cons (de_var 1) da_nil))))) (dg_sub hu (de_var 3) de_str))
    (dss_cons (ds_asg (de_lc (own := [("_law_k", 6)]) (by rfl) sc__law_plan.nd (di_range1 (by rfl) B.n_range (da_cons (de_callG G__law_draw hr (by omega) (by rfl) (da_cons (de_var 0) (da_cons (de_op od_add de_int (de_var 2)) da_nil))) da_nil)) (blkOk_by (own := [("_law_k", 6)]) (N := ["_law_d", "_law_pool_here", "_law_rich", "_law_h", "_law_ends", "_law_marks_here", "_law_k"]) (sc := defScope s__law_plan) (by decide +kernel)) (fun _ _ _ _ _ => (dg_name 6 (okAtW (by decide)) sc__law_plan.nd rfl (by first | exact Or.inl rfl | exact Or.inr rfl))) (fun _ _ _ _ _ => dts_nil) (fun _ _ _ _ _ => (de_tup (da_cons (de_callG G__law_pop hr (by omega) (by rfl) (da_cons (de_var 0) (da_cons (de_var 1) da_nil))) (da_cons (de_callTy xd_tuple (by rfl) B.n_tuple (by decide +kernel) (da_cons (de_callG G__law_some hr (by omega) (by rfl) (da_cons (de_var 0) (da_cons (de_ix hu (de_var 3) de_str (fun _ _ => rfl)) (da_cons de_int da_nil)))) da_nil)) da_nil))))) (dg_sub hu (de_var 3) de_str))
    (dss_cons (ds_set 4 sc__law_plan.nd rfl (by first | exact Or.inl rfl | exact Or.inr rfl) (de_op od_add (de_ix hu (de_var 3) de_str (fun _ _ => rfl)) (de_ix hu (de_var 3) de_str (fun _ _ => rfl))))
    (dss_cons (ds_asg (de_op od_add (de_ix hu (de_var 3) de_str (fun _ _ => rfl)) (de_lc (own := [("_law_k", 6)]) (by rfl) sc__law_plan.nd (di_range1 (by rfl) B.n_range (da_cons (de_callG G__law_draw hr (by omega) (by rfl) (da_cons (de_var 0) (da_cons (de_op od_add de_int (de_var 2)) da_nil))) da_nil)) (blkOk_by (own := [("_law_k", 6)]) (N := ["_law_d", "_law_pool_here", "_law_rich", "_law_h", "_law_ends", "_law_marks_here", "_law_k"]) (sc := defScope s__law_plan) (by decide +kernel)) (fun _ _ _ _ _ => (dg_name 6 (okAtW (by decide)) sc__law_plan.nd rfl (by first | exact Or.inl rfl | exact Or.inr rfl))) (fun _ _ _ _ _ => dts_nil) (fun _ _ _ _ _ => (de_tup (da_cons (de_callG G__law_pop hr (by omega) (by rfl) (da_cons (de_var 0) (da_cons (de_var 1) da_nil))) (da_cons (de_callTy xd_tuple (by rfl) B.n_tuple (by decide +kernel) (da_cons (de_callG G__law_some hr (by omega) (by rfl) (da_cons (de_var 0) (da_cons (de_var 4) (da_cons de_int da_nil)))) da_nil)) da_nil)))))) (dg_sub hu (de_var 3) de_str))
    (dss_cons (ds_asg (de_slice (de_ix hu (de_var 3) de_str (fun _ _ => rfl)) do_none (do_some de_int)) (dg_sub hu (de_var 3) de_str))
    (dss_cons (ds_asg (de_lc (own := [("_law_k", 6)]) (by rfl) sc__law_plan.nd (di_range1 (by rfl) B.n_range (da_cons (de_callG G__law_draw hr (by omega) (by rfl) (da_cons (de_var 0) (da_cons (de_op od_add de_int (de_var 2)) da_nil))) da_nil)) (blkOk_by (own := [("_law_k", 6)]) (N := ["_law_d", "_law_pool_here", "_law_rich", "_law_h", "_law_ends", "_law_marks_here", "_law_k"]) (sc := defScope s__law_plan) (by decide +kernel)) (fun _ _ _ _ _ => (dg_name 6 (okAtW (by decide)) sc__law_plan.nd rfl (by first | exact Or.inl rfl | exact Or.inr rfl))) (fun _ _ _ _ _ => dts_nil) (fun _ _ _ _ _ => (de_tup (da_cons (de_callG G__law_pop hr (by omega) (by rfl) (da_cons (de_var 0) (da_cons (de_var 1) da_nil))) (da_cons (de_callTy xd_tuple (by rfl) B.n_tuple (by decide +kernel) (da_cons (de_var 4) da_nil)) da_nil))))) (dg_sub hu (de_var 3) de_str))
    (dss_cons (ds_asg (de_lc (own := [("_law_k", 6)]) (by rfl) sc__law_plan.nd (di_range1 (by rfl) B.n_range (da_cons (de_callG G__law_draw hr (by omega) (by rfl) (da_cons (de_var 0) (da_cons de_int da_nil))) da_nil)) (blkOk_by (own := [("_law_k", 6)]) (N := ["_law_d", "_law_pool_here", "_law_rich", "_law_h", "_law_ends", "_law_marks_here", "_law_k"]) (sc := defScope s__law_plan) (by decide +kernel)) (fun _ _ _ _ _ => (dg_name 6 (okAtW (by decide)) sc__law_plan.nd rfl (by first | exact Or.inl rfl | exact Or.inr rfl))) (fun _ _ _ _ _ => dts_nil) (fun _ _ _ _ _ => (de_callG G__law_pop hr (by omega) (by rfl) (da_cons (de_var 0) (da_cons (de_var 1) da_nil))))) (dg_sub hu (de_var 3) de_str))
    (dss_cons (ds_asg (de_lc (own := [("_law_k", 6)]) (by rfl) sc__law_plan.nd (di_range1 (by rfl) B.n_range (da_cons (de_callG G__law_draw hr (by omega) (by rfl) (da_cons (de_var 0) (da_cons (de_op od_add de_int (de_op od_fdiv (de_var 2) de_int)) da_nil))) da_nil)) (blkOk_by (own := [("_law_k", 6)]) (N := ["_law_d", "_law_pool_here", "_law_rich", "_law_h", "_law_ends", "_law_marks_here", "_law_k"]) (sc := defScope s__law_plan) (by decide +kernel)) (fun _ _ _ _ _ => (dg_name 6 (okAtW (by decide)) sc__law_plan.nd rfl (by first | exact Or.inl rfl | exact Or.inr rfl))) (fun _ _ _ _ _ => dts_nil) (fun _ _ _ _ _ => (de_callG G__law_pop hr (by omega) (by rfl) (da_cons (de_var 0) (da_cons (de_var 1) da_nil))))) (dg_sub hu (de_var 3) de_str))
    (dss_cons (ds_asg (de_lc (own := [("_law_k", 6)]) (by rfl) sc__law_plan.nd (di_range1 (by rfl) B.n_range (da_cons (de_op od_add de_int (de_callG G__law_draw hr (by omega) (by rfl) (da_cons (de_var 0) (da_cons de_int da_nil)))) da_nil)) (blkOk_by (own := [("_law_k", 6)]) (N := ["_law_d", "_law_pool_here", "_law_rich", "_law_h", "_law_ends", "_law_marks_here", "_law_k"]) (sc := defScope s__law_plan) (by decide +kernel)) (fun _ _ _ _ _ => (dg_name 6 (okAtW (by decide)) sc__law_plan.nd rfl (by first | exact Or.inl rfl | exact Or.inr rfl))) (fun _ _ _ _ _ => dts_nil) (fun _ _ _ _ _ => (de_callG G__law_pop hr (by omega) (by rfl) (da_cons (de_var 0) (da_cons (de_var 1) da_nil))))) (dg_sub hu (de_var 3) de_str))
    (dss_cons (ds_asg (de_lc (own := [("_law_k", 6)]) (by rfl) sc__law_plan.nd (di_range1 (by rfl) B.n_range (da_cons (de_callG G__law_draw hr (by omega) (by rfl) (da_cons (de_var 0) (da_cons de_int da_nil))) da_nil)) (blkOk_by (own := [("_law_k", 6)]) (N := ["_law_d", "_law_pool_here", "_law_rich", "_law_h", "_law_ends", "_law_marks_here", "_law_k"]) (sc := defScope s__law_plan) (by decide +kernel)) (fun _ _ _ _ _ => (dg_name 6 (okAtW (by decide)) sc__law_plan.nd rfl (by first | exact Or.inl rfl | exact Or.inr rfl))) (fun _ _ _ _ _ => dts_nil) (fun _ _ _ _ _ => (de_callG G__law_pop hr (by omega) (by rfl) (da_cons (de_var 0) (da_cons (de_var 1) da_nil))))) (dg_sub hu (de_var 3) de_str))
    (dss_cons (ds_asg (de_callG G__law_plan_ties hr (by omega) (by rfl) (da_cons (de_var 0) (da_cons (de_var 3) (da_cons (de_var 1) (da_cons (de_var 2) da_nil))))) (dg_sub hu (de_var 3) de_str))
    (dss_cons (ds_asg (de_lst da_nil) (dg_sub hu (de_var 3) de_str))
    (dss_cons (ds_set 5 sc__law_plan.nd rfl (by first | exact Or.inl rfl | exact Or.inr rfl) (de_callG G__law_marks hr (by omega) (by rfl) (da_cons (de_var 3) da_nil)))
    (dss_cons (ds_if (dt_w (dw_and (dt_cmpR od_gt (de_callB xd_len (by rfl) B.n_len (by decide +kernel) (da_cons (de_var 5) da_nil)) de_int (by rfl)) (dw_and1 (dt_cmpR (od_eq hu) (de_callG G__law_draw hr (by omega) (by rfl) (da_cons (de_var 0) (da_cons de_int da_nil))) de_int (by rfl))))) (dss_one (ds_asg (de_lst (da_cons (de_tup (da_cons (de_ix hu (de_callG G__law_pick hr (by omega) (by rfl) (da_cons (de_var 0) (da_cons (de_ix hu (de_var 3) de_str (fun _ _ => rfl)) da_nil))) de_int (fun _ _ => rfl)) (da_cons (de_callG G__law_plan_tests hr (by omega) (by rfl) (da_cons (de_var 0) (da_cons (de_var 5) da_nil))) (da_cons (de_callG G__law_plan_tests hr (by omega) (by rfl) (da_cons (de_var 0) (da_cons (de_var 5) da_nil))) da_nil)))) da_nil)) (dg_sub hu (de_var 3) de_str))) dss_nil)
    (dss_one (ds_ret (de_var 3)))))))))))))))))))))
theorem good__law_plan {sp : P1} {sp__law_draw : P1} {sp__law_pop : P1} {sp__law_some : P1} {sp__law_plan_ties : P1} {sp__law_marks : P1} {sp__law_plan_tests : P1} {sp__law_pick : P1} (T : TopF K mg "_law_plan" "_law_plan" s__law_plan ["_law_d", "_law_pool_here", "_law_rich"]) (B : Blt mg) (G__law_draw : Good P w K mg base 1 "_law_draw" ["_law_d", "_law_many"] sp__law_draw) (G__law_pop : Good P w K mg base 2 "_law_pop" ["_law_d", "_law_row"] sp__law_pop) (G__law_some : Good P w K mg base 2 "_law_some" ["_law_d", "_law_row", "_law_least"] sp__law_some) (G__law_plan_ties : Good P w K mg base 3 "_law_plan_ties" ["_law_d", "_law_h", "_law_pool_here", "_law_rich"] sp__law_plan_ties) (G__law_marks : Good P w K mg base 1 "_law_marks" ["_law_h"] sp__law_marks) (G__law_plan_tests : Good P w K mg base 3 "_law_plan_tests" ["_law_d", "_law_marks_here"] sp__law_plan_tests) (G__law_pick : Good P w K mg base 2 "_law_pick" ["_law_d", "_law_row"] sp__law_pick) (len : ∀ ds h Q, sp ds h Q → ds.length = 3) (sat : ∀ ds h Q, sp ds h Q → rd__law_plan sp__law_draw sp__law_pop sp__law_some sp__law_plan_ties sp__law_marks sp__law_plan_tests sp__law_pick (endN Q) (startD 7 ds) h) : Good P w K mg base 4 "_law_plan" ["_law_d", "_law_pool_here", "_law_rich"] sp :=
  good_ok T sc__law_plan len (body__law_plan B G__law_draw G__law_pop G__law_some G__law_plan_ties G__law_marks G__law_plan_tests G__law_pick) sat
theorem body__law_world {sp__law_drawn_nodes : P1} {sp__law_node_names : P1} {sp__law_drawn_numbers : P1} {sp__law_drawn_links : P1} (B : Blt mg) (G__law_drawn_nodes : Good P w K mg base 3 "_law_drawn_nodes" ["_law_d", "_law_h", "_law_names"] sp__law_drawn_nodes) (G__law_node_names : Good P w K mg base 3 "_law_node_names" ["_law_d", "_law_pool_here", "_law_many"] sp__law_node_names) (G__law_drawn_numbers : Good P w K mg base 3 "_law_drawn_numbers" ["_law_d", "_law_h", "_law_nodes"] sp__law_drawn_numbers) (G__law_drawn_links : Good P w K mg base 3 "_law_drawn_links" ["_law_d", "_law_h", "_law_nodes", "_law_many"] sp__law_drawn_links) (f : Addr) (cdv : Value) (A : Around) (outer : List Env) (s : Shared) (H : Hp) (E : XK) (hr : RoomG 3 (A.deeper (envOfC "_law_world" (defScope s__law_world) s.heap.objs.size f cdv))) :
    DSs (cxOf CX0 P w K mg base ["_law_d", "_law_h", "_law_pool_here", "_law_many", "_law_links", "_law_nodes"] "_law_world" (defScope s__law_world) f cdv A outer s H E).nox (defBody s__law_world) (rd__law_world sp__law_drawn_nodes sp__law_node_names sp__law_drawn_numbers sp__law_drawn_links) := by
  have hu := hr.r.units
  have hu5 : (A.deeper (envOfC "_law_world" (defScope s__law_world) s.heap.objs.size f cdv)).units + 65 < cLine := by have := hr.r.un; omega
  exact (dss_cons (ds_set 5 sc__law_world.nd rfl (by first | exact Or.inl rfl | exact Or.inr rfl) (de_callG G__law_drawn_nodes hr (by omega) (by rfl) (da_cons (de_var 0) (da_cons (de_var 1) (da_cons (de_callG G__law_node_names hr (by omega) (by rfl) (da_cons (de_var 0) (da_cons (de_var 2) (da_cons (de_callB (xd_max2 rfl) (by rfl) B.n_max (by decide +kernel) (da_cons de_int (da_cons (de_var 3) da_nil))) da_nil)))) da_nil)))))
    (dss_one (ds_ret (de_tup (da_cons (de_var 5) (da_cons (de_callG G__law_drawn_links hr (by omega) (by rfl) (da_cons (de_var 0) (da_cons (de_var 1) (da_cons (de_var 5) (da_cons (de_var 4) da_nil))))) (da_cons (de_callG G__law_drawn_numbers hr (by omega) (by rfl) (da_cons (de_var 0) (da_cons (de_var 1) (da_cons (de_var 5) da_nil)))) da_nil)))))))
theorem good__law_world {sp : P1} {sp__law_drawn_nodes : P1} {sp__law_node_names : P1} {sp__law_drawn_numbers : P1} {sp__law_drawn_links : P1} (T : TopF K mg "_law_world" "_law_world" s__law_world ["_law_d", "_law_h", "_law_pool_here", "_law_many", "_law_links"]) (B : Blt mg) (G__law_drawn_nodes : Good P w K mg base 3 "_law_drawn_nodes" ["_law_d", "_law_h", "_law_names"] sp__law_drawn_nodes) (G__law_node_names : Good P w K mg base 3 "_law_node_names" ["_law_d", "_law_pool_here", "_law_many"] sp__law_node_names) (G__law_drawn_numbers : Good P w K mg base 3 "_law_drawn_numbers" ["_law_d", "_law_h", "_law_nodes"] sp__law_drawn_numbers) (G__law_drawn_links : Good P w K mg base 3 "_law_drawn_links" ["_law_d", "_law_h", "_law_nodes", "_law_many"] sp__law_drawn_links) (len : ∀ ds h Q, sp ds h Q → ds.length = 5) (sat : ∀ ds h Q, sp ds h Q → rd__law_world sp__law_drawn_nodes sp__law_node_names sp__law_drawn_numbers sp__law_drawn_links (endN Q) (startD 6 ds) h) : Good P w K mg base 4 "_law_world" ["_law_d", "_law_h", "_law_pool_here", "_law_many", "_law_links"] sp :=
  good_ok T sc__law_world len (body__law_world B G__law_drawn_nodes G__law_node_names G__law_drawn_numbers G__law_drawn_links) sat
theorem body__law_one_sight {sp__law_rare : P1} {sp__law_draw : P1} {sp__law_world : P1} {sp__law_full_sight : P1} {sp__law_drawn_sight : P1} (B : Blt mg) (G__law_rare : Good P w K mg base 2 "_law_rare" ["_law_d", "_law_many"] sp__law_rare) (G__law_draw : Good P w K mg base 1 "_law_draw" ["_law_d", "_law_many"] sp__law_draw) (G__law_world : Good P w K mg base 4 "_law_world" ["_law_d", "_law_h", "_law_pool_here", "_law_many", "_law_links"] sp__law_world) (G__law_full_sight : Good P w K mg base 2 "_law_full_sight" ["_law_h", "_law_world_here"] sp__law_full_sight) (G__law_drawn_sight : Good P w K mg base 3 "_law_drawn_sight" ["_law_d", "_law_h", "_law_world_here", "_law_share"] sp__law_drawn_sight) (f : Addr) (cdv : Value) (A : Around) (outer : List Env) (s : Shared) (H : Hp) (E : XK) (hr : RoomG 4 (A.deeper (envOfC "_law_one_sight" (defScope s__law_one_sight) s.heap.objs.size f cdv))) :
    DSs (cxOf CX0 P w K mg base ["_law_d", "_law_h", "_law_pool_here", "_law_many", "_law_world_here", "_law_way", "_law_sight"] "_law_one_sight" (defScope s__law_one_sight) f cdv A outer s H E).nox (defBody s__law_one_sight) (rd__law_one_sight sp__law_rare sp__law_draw sp__law_world sp__law_full_sight sp__law_drawn_sight) := by
  have hu := hr.r.units
  have hu5 : (A.deeper (envOfC "_law_one_sight" (defScope s__law_one_sight) s.heap.objs.size f cdv)).units + 65 < cLine := by have := hr.r.un; omega
  exact (dss_cons (ds_set 3 sc__law_one_sight.nd rfl (by first | exact Or.inl rfl | exact Or.inr rfl) (de_ifExp (dt_tru (de_callG G__law_rare hr (by omega) (by rfl) (da_cons (de_var 0) (da_cons de_int da_nil)))) de_int (de_op od_add de_int (de_callG G__law_draw hr (by omega) (by rfl) (da_cons (de_var 0) (da_cons de_int da_nil))))))
    (dss_cons (ds_set 4 sc__law_one_sight.nd rfl (by first | exact Or.inl rfl | exact Or.inr rfl) (de_callG G__law_world hr (by omega) (by rfl) (da_cons (de_var 0) (da_cons (de_var 1) (da_cons (de_var 2) (da_cons (de_var 3) (da_cons (de_op od_mul de_int (de_var 3)) da_nil)))))))
    (dss_cons (ds_set 5 sc__law_one_sight.nd rfl (by first | exact Or.inl rfl | exact Or.inr rfl) (de_callG G__law_draw hr (by omega) (by rfl) (da_cons (de_var 0) (da_cons de_int da_nil))))
    (dss_cons (ds_if (dt_cmpR (od_eq hu) (de_var 5) de_int (by rfl)) (dss_one (ds_ret (de_callG G__law_full_sight hr (by omega) (by rfl) (da_cons (de_var 1) (da_cons (de_var 4) da_nil))))) dss_nil)
    (dss_cons (ds_set 6 sc__law_one_sight.nd rfl (by first | exact Or.inl rfl | exact Or.inr rfl) (de_callG G__law_drawn_sight hr (by omega) (by rfl) (da_cons (de_var 0) (da_cons (de_var 1) (da_cons (de_var 4) (da_cons (de_op od_add de_int (de_callG G__law_draw hr (by omega) (by rfl) (da_cons (de_var 0) (da_cons de_int da_nil)))) da_nil))))))
    (dss_cons (ds_if (dt_cmpR (od_eq hu) (de_var 5) de_int (by rfl)) (dss_one (ds_ret (de_tup (da_cons (de_ix hu (de_var 6) de_int (fun _ _ => rfl)) (da_cons (de_ix hu (de_var 6) de_int (fun _ _ => rfl)) (da_cons (de_tup da_nil) (da_cons (de_ix hu (de_var 6) de_int (fun _ _ => rfl)) (da_cons (de_ix hu (de_var 6) de_int (fun _ _ => rfl)) da_nil)))))))) dss_nil)
    (dss_one (ds_ret (de_ifExp (dt_cmpR od_gt (de_var 5) de_int (by rfl)) (de_var 6) (de_tup (da_cons (de_ix hu (de_var 6) de_int (fun _ _ => rfl)) (da_cons (de_tup da_nil) (da_cons (de_tup da_nil) (da_cons (de_tup da_nil) (da_cons (de_tup da_nil) da_nil)))))))))))))))
theorem good__law_one_sight {sp : P1} {sp__law_rare : P1} {sp__law_draw : P1} {sp__law_world : P1} {sp__law_full_sight : P1} {sp__law_drawn_sight : P1} (T : TopF K mg "_law_one_sight" "_law_one_sight" s__law_one_sight ["_law_d", "_law_h", "_law_pool_here"]) (B : Blt mg) (G__law_rare : Good P w K mg base 2 "_law_rare" ["_law_d", "_law_many"] sp__law_rare) (G__law_draw : Good P w K mg base 1 "_law_draw" ["_law_d", "_law_many"] sp__law_draw) (G__law_world : Good P w K mg base 4 "_law_world" ["_law_d", "_law_h", "_law_pool_here", "_law_many", "_law_links"] sp__law_world) (G__law_full_sight : Good P w K mg base 2 "_law_full_sight" ["_law_h", "_law_world_here"] sp__law_full_sight) (G__law_drawn_sight : Good P w K mg base 3 "_law_drawn_sight" ["_law_d", "_law_h", "_law_world_here", "_law_share"] sp__law_drawn_sight) (len : ∀ ds h Q, sp ds h Q → ds.length = 3) (sat : ∀ ds h Q, sp ds h Q → rd__law_one_sight sp__law_rare sp__law_draw sp__law_world sp__law_full_sight sp__law_drawn_sight (endN Q) (startD 7 ds) h) : Good P w K mg base 5 "_law_one_sight" ["_law_d", "_law_h", "_law_pool_here"] sp :=
  good_ok T sc__law_one_sight len (body__law_one_sight B G__law_rare G__law_draw G__law_world G__law_full_sight G__law_drawn_sight) sat
theorem body_law {sp__law_begin : P1} {sp__law_pool : P1} {sp__law_plan : P1} {sp__law_draw : P1} {sp__law_one_sight : P1} {sp__law_lesser : P1} {sp_weaker : P1} (B : Blt mg) (G__law_begin : Good P w K mg base 1 "_law_begin" ["_law_script"] sp__law_begin) (G__law_pool : Good P w K mg base 1 "_law_pool" [] sp__law_pool) (G__law_plan : Good P w K mg base 4 "_law_plan" ["_law_d", "_law_pool_here", "_law_rich"] sp__law_plan) (G__law_draw : Good P w K mg base 1 "_law_draw" ["_law_d", "_law_many"] sp__law_draw) (G__law_one_sight : Good P w K mg base 5 "_law_one_sight" ["_law_d", "_law_h", "_law_pool_here"] sp__law_one_sight) (G__law_lesser : Good P w K mg base 1 "_law_lesser" ["_law_sight"] sp__law_lesser) (G_weaker : Good P w K mg base 3 "weaker" ["sight"] sp_weaker) (f : Addr) (cdv : Value) (A : Around) (outer : List Env) (s : Shared) (H : Hp) (E : XK) (hr : RoomG 5 (A.deeper (envOfC "law" (defScope s_law) s.heap.objs.size f cdv))) :
    DSs (cxOf CX0 P w K mg base ["_law_script", "_law_d", "_law_pool_here", "_law_h", "_law_sights", "_law_first", "_law_turn", "_law_k", "_law_due", "_law_given", "_law_place"] "law" (defScope s_law) f cdv A outer s H E).nox (defBody s_law) (rd_law sp__law_begin sp__law_pool sp__law_plan sp__law_draw sp__law_one_sight sp__law_lesser sp_weaker) := by
  have hu := hr.r.units
  have hu5 : (A.deeper (envOfC "law" (defScope s_law) s.heap.objs.size f cdv)).units + 65 < cLine := by have := hr.r.un; omega
  exact (dss_cons (ds_set 1 sc_law.nd rfl (by first | exact Or.inl rfl | exact Or.inr rfl) (de_callG G__law_begin hr (by omega) (by rfl) (da_cons (de_var 0) da_nil)))
    (dss_cons (ds_set 2 sc_law.nd rfl (by first | exact Or.inl rfl | exact Or.inr rfl) (de_callG0 G__law_pool hr (by omega) (by rfl)))
    (dss_cons (ds_set 3 sc_law.nd rfl (by first | exact Or.inl rfl | exact Or.inr rfl) (de_callG G__law_plan hr (by omega) (by rfl) (da_cons (de_var 1) (da_cons (de_var 2) (da_cons (de_callG G__law_draw hr (by omega) (by rfl) (da_cons (de_var 1) (da_cons de_int da_nil))) da_nil)))))
    (dss_cons (ds_setLc 4 (own := [("_law_k", 7)]) (by rfl) sc_law.nd rfl rfl (sw_true rfl rfl rfl (by decide +kernel)) (di_range1 (by rfl) B.n_range (da_cons de_int da_nil)) (blkOk_by (own := [("_law_k", 7)]) (N := ["_law_script", "_law_d", "_law_pool_here", "_law_h", "_law_sights", "_law_first", "_law_turn", "_law_k", "_law_due", "_law_given", "_law_place"]) (sc := defScope s_law) (by decide +kernel)) (fun _ _ _ _ _ => (dg_name 7 (okAtW (by decide)) sc_law.nd rfl (by first | exact Or.inl rfl | exact Or.inr rfl))) (fun _ _ _ _ _ => dts_nil) (fun _ _ _ _ _ => (de_callG G__law_one_sight hr (by omega) (by rfl) (da_cons (de_var 1) (da_cons (de_var 3) (da_cons (de_var 2) da_nil))))))
    (dss_cons (ds_set 5 sc_law.nd rfl (by first | exact Or.inl rfl | exact Or.inr rfl) (de_ix hu (de_var 4) de_int (fun _ _ => rfl)))
    (dss_cons (ds_for PassesOwn.never (by rfl) (di_range1 (by rfl) B.n_range (da_cons (de_op od_add de_int (de_callG G__law_draw hr (by omega) (by rfl) (da_cons (de_var 1) (da_cons de_int da_nil)))) da_nil)) (dg_name 6 okAt0 sc_law.nd rfl (by first | exact Or.inl rfl | exact Or.inr rfl)) (dss_cons (ds_set 7 sc_law.nd rfl (by first | exact Or.inl rfl | exact Or.inr rfl) (de_op od_and (de_var 6) de_int))
    (dss_cons (ds_set 8 sc_law.nd rfl (by first | exact Or.inl rfl | exact Or.inr rfl) (de_callG G__law_lesser hr (by omega) (by rfl) (da_cons (de_ix hu (de_var 4) (de_var 7) (fun _ _ => rfl)) da_nil)))
    (dss_cons (ds_set 9 sc_law.nd rfl (by first | exact Or.inl rfl | exact Or.inr rfl) (de_callG G_weaker hr (by omega) (by rfl) (da_cons (de_ix hu (de_var 4) (de_var 7) (fun _ _ => rfl)) da_nil)))
    (dss_cons (ds_if (dt_w (dw_or (dt_not (dt_tru (de_callB xd_isi (by rfl) B.n_isinstance (by decide +kernel) (da_cons (de_var 9) (da_cons (de_ty (T := "tuple") (by rfl) B.n_tuple (by decide +kernel)) da_nil))))) (dw_or1 (dt_cmpR (od_ne hu) (de_callTy xd_list (by rfl) B.n_list (by decide +kernel) (da_cons (de_var 9) da_nil)) (de_var 8) (by rfl))))) (dss_one (ds_ret de_bl)) dss_nil)
    (dss_one (ds_if (dt_cmpR od_gt (de_callB xd_len (by rfl) B.n_len (by decide +kernel) (da_cons (de_var 8) da_nil)) de_int (by rfl)) (dss_cons (ds_set 10 sc_law.nd rfl (by first | exact Or.inl rfl | exact Or.inr rfl) (de_callG G__law_draw hr (by omega) (by rfl) (da_cons (de_var 1) (da_cons (de_callB xd_len (by rfl) B.n_len (by decide +kernel) (da_cons (de_var 8) da_nil)) da_nil))))
    (dss_cons (ds_if (dt_cmpR (od_ne hu) (de_callB (xd_repr hu5 hr.g) (by rfl) B.n_repr (by decide +kernel) (da_cons (de_ix hu (de_var 9) (de_var 10) (fun _ _ => rfl)) da_nil)) (de_callB (xd_repr hu5 hr.g) (by rfl) B.n_repr (by decide +kernel) (da_cons (de_ix hu (de_var 8) (de_var 10) (fun _ _ => rfl)) da_nil)) (by rfl)) (dss_one (ds_ret de_bl)) dss_nil)
    (dss_one (ds_asg (de_ix hu (de_var 8) (de_var 10) (fun _ _ => rfl)) (dg_sub hu (de_var 4) (de_var 7)))))) dss_nil)))))))
    (dss_one (ds_ret (de_cmpR (od_eq hu) (de_callTy xd_list (by rfl) B.n_list (by decide +kernel) (da_cons (de_callG G_weaker hr (by omega) (by rfl) (da_cons (de_var 5) da_nil)) da_nil)) (de_callG G__law_lesser hr (by omega) (by rfl) (da_cons (de_var 5) da_nil)) (by rfl))))))))))
theorem fn_law {sp : P1} {sp__law_begin : P1} {sp__law_pool : P1} {sp__law_plan : P1} {sp__law_draw : P1} {sp__law_one_sight : P1} {sp__law_lesser : P1} {sp_weaker : P1} {f : Addr} {fd : FuncData} (F : Fun K "law" "law" s_law f fd) (B : Blt mg) (G__law_begin : Good P w K mg base 1 "_law_begin" ["_law_script"] sp__law_begin) (G__law_pool : Good P w K mg base 1 "_law_pool" [] sp__law_pool) (G__law_plan : Good P w K mg base 4 "_law_plan" ["_law_d", "_law_pool_here", "_law_rich"] sp__law_plan) (G__law_draw : Good P w K mg base 1 "_law_draw" ["_law_d", "_law_many"] sp__law_draw) (G__law_one_sight : Good P w K mg base 5 "_law_one_sight" ["_law_d", "_law_h", "_law_pool_here"] sp__law_one_sight) (G__law_lesser : Good P w K mg base 1 "_law_lesser" ["_law_sight"] sp__law_lesser) (G_weaker : Good P w K mg base 3 "weaker" ["sight"] sp_weaker) (len : ∀ ds h Q, sp ds h Q → ds.length = 1) (sat : ∀ ds h Q, sp ds h Q → rd_law sp__law_begin sp__law_pool sp__law_plan sp__law_draw sp__law_one_sight sp__law_lesser sp_weaker (endN Q) (startD 11 ds) h) : FnG P w K mg base 6 f fd ["_law_script"] (lowP ⟨K, w⟩ sp) :=
  df_ok F sc_law len fun cdv A outer s H E hr => ⟨_, body_law B G__law_begin G__law_pool G__law_plan G__law_draw G__law_one_sight G__law_lesser G_weaker f cdv A outer s H E hr, sat⟩
end
end DL
namespace DL
open PySem PySem.Spec PyProof.Rows L2
local macro_rules | `(tactic| walk_at "ev") => `(tactic| try simp only [e_seq, e_next, e_brk, e_cnt, e_drop, e_ret, e_retN, e_ifS, e_asg, e_gN, e_gSb, e_gTp, e_gCn, e_gNl, e_var, e_varK, e_nth0, e_nthS, e_put0, e_putS, e_c, e_op, e_un, e_call, e_nil, e_cons, e_tup, e_lst, e_test, e_asB, e_tru, e_andT, e_orT, e_notT, e_andV, e_orV, e_notV, e_if, e_aug, e_augS, e_sl, e_part, e_partK, e_noPart, e_bm0, e_bm, e_join, e_yes, e_wipe0, e_wipeS, e_lc, e_for, v_add, v_addS, v_addT, v_iadd, v_sub, v_mul, v_fdiv, v_mod, v_pow, v_shl, v_shr, v_neg, v_lt, v_le, v_gt, v_ge, v_eqI, v_neI, v_eqS, v_neS, v_inS, v_ninS, v_inT, v_ninT, v_inR, v_ninR, v_inSeq, v_seqO, v_seqR, v_seqT, v_seqL, v_ixR, v_ixT, v_ixL, v_ixS, v_atK, v_atSK, v_get, v_getL, v_getK, v_set, v_setL, v_setK, v_on1, v_on2, v_lenR, v_lenT, v_lenL, v_lenS, v_seqK, v_tuple, v_list, v_abs, v_intI, v_intB, v_okL, v_isLst, v_app, v_lstK, v_slS, v_slT, v_join, v_is, v_isnot, v_max, v_min, v_iSeq, v_srcT, v_srcL, v_srcS, v_srcR, v_srcO, v_iRg1, v_rg1, v_truN, v_truB, v_truI, v_truS, v_truR, v_truT, v_truRol, v_truL, v_inRol, v_ninRol, v_inO, v_inOd, v_inDic, v_ixO, v_ixOd, v_ixSeq, v_ixDic, v_dgetK, v_ixStr, v_getO, v_getOd, v_setO, v_setOd, v_setDic, v_lenO, v_lenOd, e_dic0, e_disp, e_pairs0, e_pairsS, e_chain, v_bits, v_iRg3, v_rg3, v_iRg2, v_rg2, v_iEn, v_enT, v_enR, v_enO, v_iZp, v_zpT, v_zpR, v_zpO, v_repr, v_strI, v_strS, v_addR, v_and, v_slR, v_slL, v_ltS, v_srtT, v_srtR, v_srtO, v_srtD, v_revR, v_revT, v_isB, v_iZs, v_zsT, e_split, v_split, v_words, v_index, v_eqIS, v_neIS, v_eqB, v_neB])
theorem ixN5_1 : ixN 5 1 = some 1 := by decide
theorem ixN5_2 : ixN 5 2 = some 2 := by decide
theorem ixN5_3 : ixN 5 3 = some 3 := by decide
theorem CPow_a : CPow 10 18 := by unfold CPow; decide
theorem CPow_b : CPow 1 6000 := by unfold CPow; decide
theorem pow6000 : (0:Int) < 1 * 2 ^ Int.toNat 6000 := by rw [Int.one_mul]; exact Int.pow_pos (by decide)
theorem len__law_draw : ∀ ds h Q, sp__law_draw ds h Q → ds.length = 2 := fun ds h Q ⟨a, c, cs, many, e, _⟩ => by rw [e]; rfl
section
variable {Q : KD} {h0 : MH} {a c : Addr} {cs : List Int} {many : Int}
/-- what the draw's end wants -/
def DrFin (Q : KD) (h0 : MH) (a c : Addr) (many : Int) : Prop := ∀ (x p acc r : Int), 0 ≤ p → Lh Q (.int (x % many)) (up h0 a (.lst [.ref c, .int p, .int acc, .int r, .int 3]))
theorem draw_5 (hm : 0 < many) (q : DrFin Q h0 a c many) {x y : Option D} {size p acc r : Int} (hp : 0 ≤ p) : rd__law_draw_5 (endN Q) [some (.ref a), some (.int many), x, some (.int size), y] (up h0 a (.lst [.ref c, .int p, .int acc, .int r, .int 3])) := by
  unfold rd__law_draw_5 rd__law_draw_6
  walk_at "ev"
  simp only [up_same, up_up, v_ixO, v_ixO, v_ixSeq, atI_1, atI_3, v_atK, v_mul, v_add, v_mod, v_intI, v_setO, v_setL, List.length_cons, List.length_nil, Nat.reduceAdd, ixN5_3, v_setK, List.set_cons_succ, List.set_cons_zero, v_fdiv]
  refine ⟨mulOk_r (by decide), by decide, mulOk_r (by decide), mulOk_r (by decide), by decide, divOk_16, hm, q _ _ _ _ hp⟩
theorem draw_4 (hm : 0 < many) (hm2 : many < 2 ^ 64) (q : DrFin Q h0 a c many) {x y : Option D} {size p acc r : Int} (hp : 0 ≤ p) : rd__law_draw_4 (endN Q) [some (.ref a), some (.int many), x, some (.int size), y] (up h0 a (.lst [.ref c, .int p, .int acc, .int r, .int 3])) := by
  unfold rd__law_draw_4
  walk_at "ev"
  refine ⟨CPow_a, mulOk_l (by decide), ?_⟩
  split
  · refine ⟨divOk_2, CPow_b, pow6000, divOk_of hm hm2, ?_⟩
    simp only [up_same, up_up, v_ixO, v_setO, v_setL, List.length_cons, List.length_nil, Nat.reduceAdd, ixN5_2, v_setK, List.set_cons_succ, List.set_cons_zero]
    exact ⟨hm, q _ _ _ _ hp⟩
  · exact draw_5 hm q hp
theorem draw_3 (hm : 0 < many) (hm2 : many < 2 ^ 64) (q : DrFin Q h0 a c many) {x y : Option D} {size p acc r : Int} (hp : 0 ≤ p) (ha : h0 a = some (.lst [.ref c, .int p, .int acc, .int r, .int 3])) : rd__law_draw_3 (endN Q) [some (.ref a), some (.int many), x, some (.int size), y] h0 := by
  unfold rd__law_draw_3
  walk_at "ev"
  simp only [ha, v_getO, v_getL, atI_1, v_getK, v_iadd, v_setO, v_setL, List.length_cons, List.length_nil, Nat.reduceAdd, ixN5_1, v_setK, List.set_cons_succ, List.set_cons_zero]
  exact ⟨by decide, draw_4 hm hm2 q (by omega)⟩
end
theorem sat__law_draw : ∀ ds h Q, sp__law_draw ds h Q → rd__law_draw (endN Q) (startD 5 ds) h := by
  rintro ds h Q ⟨a, c, cs, many, rfl, hm, hm2, d, q⟩
  obtain ⟨⟨o, ha, p, acc, r, hp, rfl⟩, hc⟩ := id d
  have dv := divOk_of hm hm2
  have fin : DrFin Q h a c many := fun x p' acc' r' hp' =>
    lh_of (q _ _ (Int.emod_nonneg _ (by omega)) (Int.emod_lt_of_pos _ hm) ⟨p', acc', r', hp', rfl⟩)
  show rd__law_draw (endN Q) [some (.ref a), some (.int many), none, none, none] h
  unfold rd__law_draw
  walk_at "ev"
  simp only [ha, atI_2, v_ixO, v_ixO, v_ixSeq, v_atK, v_gt, e_asB, decide_eq_true_eq]
  split
  · walk_at "ev"
    simp only [ha, v_setO, v_setL, List.length_cons, List.length_nil, Nat.reduceAdd, ixN5_2, v_setK, List.set_cons_succ, List.set_cons_zero, dv, hm, true_and]
    exact fin _ _ _ _ hp
  · unfold rd__law_draw_1 rd__law_draw_2
    walk_at "ev"
    simp only [ha, hc, atI_z, atI_1, v_ixO, v_ixO, v_ixSeq, v_atK, v_lenR, v_lenO, v_lt, e_asB, decide_eq_true_eq, List.length_map]
    split
    · rename_i hlt
      obtain ⟨j, rfl⟩ := Int.eq_ofNat_of_zero_le hp
      have hj : j < cs.length := by omega
      simp only [ha, hc, atI_z, atI_1, v_ixO, v_ixO, v_ixSeq, v_atK, v_ixR, atI_of rfl (show (cs.map D.int)[j]? = some (.int cs[j]) by rw [List.getElem?_map, List.getElem?_eq_getElem hj]; rfl), v_abs, v_mul, v_lt, v_intB, v_add]
      exact ⟨mulOk_l (by decide), draw_3 hm hm2 fin hp ha⟩
    · exact draw_3 hm hm2 fin hp ha
end DL
namespace DL
open PySem PySem.Spec PyProof.Rows L2
local macro_rules | `(tactic| walk_at "ev") => `(tactic| try simp only [e_seq, e_next, e_brk, e_cnt, e_drop, e_ret, e_retN, e_ifS, e_asg, e_gN, e_gSb, e_gTp, e_gCn, e_gNl, e_var, e_varK, e_nth0, e_nthS, e_put0, e_putS, e_c, e_op, e_un, e_call, e_nil, e_cons, e_tup, e_lst, e_test, e_asB, e_tru, e_andT, e_orT, e_notT, e_andV, e_orV, e_notV, e_if, e_aug, e_augS, e_sl, e_part, e_partK, e_noPart, e_bm0, e_bm, e_join, e_yes, e_wipe0, e_wipeS, e_lc, e_for, v_add, v_addS, v_addT, v_iadd, v_sub, v_mul, v_fdiv, v_mod, v_pow, v_shl, v_shr, v_neg, v_lt, v_le, v_gt, v_ge, v_eqI, v_neI, v_eqS, v_neS, v_inS, v_ninS, v_inT, v_ninT, v_inR, v_ninR, v_inSeq, v_seqO, v_seqR, v_seqT, v_seqL, v_ixR, v_ixT, v_ixL, v_ixS, v_atK, v_atSK, v_get, v_getL, v_getK, v_set, v_setL, v_setK, v_on1, v_on2, v_lenR, v_lenT, v_lenL, v_lenS, v_seqK, v_tuple, v_list, v_abs, v_intI, v_intB, v_okL, v_isLst, v_app, v_lstK, v_slS, v_slT, v_join, v_is, v_isnot, v_max, v_min, v_iSeq, v_srcT, v_srcL, v_srcS, v_srcR, v_srcO, v_iRg1, v_rg1, v_truN, v_truB, v_truI, v_truS, v_truR, v_truT, v_truRol, v_truL, v_inRol, v_ninRol, v_inO, v_inOd, v_inDic, v_ixO, v_ixOd, v_ixSeq, v_ixDic, v_dgetK, v_ixStr, v_getO, v_getOd, v_setO, v_setOd, v_setDic, v_lenO, v_lenOd, e_dic0, e_disp, e_pairs0, e_pairsS, e_chain, v_bits, v_iRg3, v_rg3, v_iRg2, v_rg2, v_iEn, v_enT, v_enR, v_enO, v_iZp, v_zpT, v_zpR, v_zpO, v_repr, v_strI, v_strS, v_addR, v_and, v_slR, v_slL, v_ltS, v_srtT, v_srtR, v_srtO, v_srtD, v_revR, v_revT, v_isB, v_iZs, v_zsT, e_split, v_split, v_words, v_index, v_eqIS, v_neIS, v_eqB, v_neB])
theorem len__law_begin : ∀ ds h Q, sp__law_begin ds h Q → ds.length = 1 := fun ds h Q ⟨cs, e, _⟩ => by rw [e]; rfl
theorem sat__law_begin : ∀ ds h Q, sp__law_begin ds h Q → rd__law_begin (endN Q) (startD 2 ds) h := by
  rintro ds h Q ⟨cs, rfl, hl, q⟩
  show rd__law_begin (endN Q) [some (.rol (cs.map D.int)), none] h
  unfold rd__law_begin
  walk_at "ev"
  refine ⟨by rw [List.length_map]; exact Nat.le_trans hl (by decide), fun i acc hh => hh = h ∧ acc = (cs.take i).map D.int, ⟨h, le.refl, rfl, rfl⟩, fun _ _ _ _ => trivial, ?_, ?_⟩
  · rintro i x acc hh hx ⟨rfl, rfl⟩
    rw [List.getElem?_map] at hx
    obtain ⟨n, hn, rfl⟩ := Option.map_eq_some_iff.mp hx
    walk_at "ev"
    rw [if_pos trivial]
    refine ⟨hh, le.refl, rfl, ?_⟩
    obtain ⟨hlt, e⟩ := List.getElem?_eq_some_iff.mp hn
    rw [List.take_succ_eq_append_getElem hlt, List.map_append, e]; rfl
  · rintro acc hh ⟨rfl, rfl⟩ p np
    walk_at "ev"
    refine ⟨by show 5 ≤ sizeLine; decide, fun a na => ?_⟩
    rw [List.length_map, List.take_length]
    have npa : a ≠ p := fun z => by rw [z, up_same] at na; cases na
    exact lh_of (q a p _ (by rw [up_ne npa] at na; exact na) np npa ⟨0, 0, 7, by decide, rfl⟩)
end DL
namespace DL
open PySem PySem.Spec PyProof.Rows L2
local macro_rules | `(tactic| walk_at "ev") => `(tactic| try simp only [e_seq, e_next, e_brk, e_cnt, e_drop, e_ret, e_retN, e_ifS, e_asg, e_gN, e_gSb, e_gTp, e_gCn, e_gNl, e_var, e_varK, e_nth0, e_nthS, e_put0, e_putS, e_c, e_op, e_un, e_call, e_nil, e_cons, e_tup, e_lst, e_test, e_asB, e_tru, e_andT, e_orT, e_notT, e_andV, e_orV, e_notV, e_if, e_aug, e_augS, e_sl, e_part, e_partK, e_noPart, e_bm0, e_bm, e_join, e_yes, e_wipe0, e_wipeS, e_lc, e_for, v_add, v_addS, v_addT, v_iadd, v_sub, v_mul, v_fdiv, v_mod, v_pow, v_shl, v_shr, v_neg, v_lt, v_le, v_gt, v_ge, v_eqI, v_neI, v_eqS, v_neS, v_inS, v_ninS, v_inT, v_ninT, v_inR, v_ninR, v_inSeq, v_seqO, v_seqR, v_seqT, v_seqL, v_ixR, v_ixT, v_ixL, v_ixS, v_atK, v_atSK, v_get, v_getL, v_getK, v_set, v_setL, v_setK, v_on1, v_on2, v_lenR, v_lenT, v_lenL, v_lenS, v_seqK, v_tuple, v_list, v_abs, v_intI, v_intB, v_okL, v_isLst, v_app, v_lstK, v_slS, v_slT, v_join, v_is, v_isnot, v_max, v_min, v_iSeq, v_srcT, v_srcL, v_srcS, v_srcR, v_srcO, v_iRg1, v_rg1, v_truN, v_truB, v_truI, v_truS, v_truR, v_truT, v_truRol, v_truL, v_inRol, v_ninRol, v_inO, v_inOd, v_inDic, v_ixO, v_ixOd, v_ixSeq, v_ixDic, v_dgetK, v_ixStr, v_getO, v_getOd, v_setO, v_setOd, v_setDic, v_lenO, v_lenOd, e_dic0, e_disp, e_pairs0, e_pairsS, e_chain, v_bits, v_iRg3, v_rg3, v_iRg2, v_rg2, v_iEn, v_enT, v_enR, v_enO, v_iZp, v_zpT, v_zpR, v_zpO, v_repr, v_strI, v_strS, v_addR, v_and, v_slR, v_slL, v_ltS, v_srtT, v_srtR, v_srtO, v_srtD, v_revR, v_revT, v_isB, v_iZs, v_zsT, e_split, v_split, v_words, v_index, v_eqIS, v_neIS, v_eqB, v_neB])
theorem len__law_pick : ∀ ds h Q, sp__law_pick ds h Q → ds.length = 2 := fun ds h Q ⟨a, c, cs, row, xs, e, _⟩ => by rw [e]; rfl
theorem sat__law_pick : ∀ ds h Q, sp__law_pick ds h Q → rd__law_pick sp__law_draw (endN Q) (startD 2 ds) h := by
  rintro ds h Q ⟨a, c, cs, row, xs, rfl, d, hr, hne, hx, hl, q⟩
  show rd__law_pick sp__law_draw (endN Q) [some (.ref a), some row] h
  unfold rd__law_pick
  walk_at "ev"
  refine len_row hr ?_
  have hp : 0 < xs.length := List.length_pos_iff.mpr hx
  refine ⟨a, c, cs, _, rfl, by omega, by omega, d, fun r o h0 h1 k => ?_⟩
  obtain ⟨j, rfl⟩ := Int.eq_ofNat_of_zero_le h0
  have hj : j < xs.length := by omega
  have hr' : rowOf (up h a o) row = some xs := by
    cases row <;> try exact hr
    case ref l =>
      have : l ≠ a := fun z => hne (by rw [z])
      show seqO (up h a o l) = some xs
      rw [up_ne this]; exact hr
  exact ix_row hr' (List.getElem?_eq_getElem hj) (lh_of (q _ o (List.getElem_mem hj) k))
end DL
namespace DL
open PySem PySem.Spec PyProof.Rows L2
local macro_rules | `(tactic| walk_at "ev") => `(tactic| try simp only [e_seq, e_next, e_brk, e_cnt, e_drop, e_ret, e_retN, e_ifS, e_asg, e_gN, e_gSb, e_gTp, e_gCn, e_gNl, e_var, e_varK, e_nth0, e_nthS, e_put0, e_putS, e_c, e_op, e_un, e_call, e_nil, e_cons, e_tup, e_lst, e_test, e_asB, e_tru, e_andT, e_orT, e_notT, e_andV, e_orV, e_notV, e_if, e_aug, e_augS, e_sl, e_part, e_partK, e_noPart, e_bm0, e_bm, e_join, e_yes, e_wipe0, e_wipeS, e_lc, e_for, v_add, v_addS, v_addT, v_iadd, v_sub, v_mul, v_fdiv, v_mod, v_pow, v_shl, v_shr, v_neg, v_lt, v_le, v_gt, v_ge, v_eqI, v_neI, v_eqS, v_neS, v_inS, v_ninS, v_inT, v_ninT, v_inR, v_ninR, v_inSeq, v_seqO, v_seqR, v_seqT, v_seqL, v_ixR, v_ixT, v_ixL, v_ixS, v_atK, v_atSK, v_get, v_getL, v_getK, v_set, v_setL, v_setK, v_on1, v_on2, v_lenR, v_lenT, v_lenL, v_lenS, v_seqK, v_tuple, v_list, v_abs, v_intI, v_intB, v_okL, v_isLst, v_app, v_lstK, v_slS, v_slT, v_join, v_is, v_isnot, v_max, v_min, v_iSeq, v_srcT, v_srcL, v_srcS, v_srcR, v_srcO, v_iRg1, v_rg1, v_truN, v_truB, v_truI, v_truS, v_truR, v_truT, v_truRol, v_truL, v_inRol, v_ninRol, v_inO, v_inOd, v_inDic, v_ixO, v_ixOd, v_ixSeq, v_ixDic, v_dgetK, v_ixStr, v_getO, v_getOd, v_setO, v_setOd, v_setDic, v_lenO, v_lenOd, e_dic0, e_disp, e_pairs0, e_pairsS, e_chain, v_bits, v_iRg3, v_rg3, v_iRg2, v_rg2, v_iEn, v_enT, v_enR, v_enO, v_iZp, v_zpT, v_zpR, v_zpO, v_repr, v_strI, v_strS, v_addR, v_and, v_slR, v_slL, v_ltS, v_srtT, v_srtR, v_srtO, v_srtD, v_revR, v_revT, v_isB, v_iZs, v_zsT, e_split, v_split, v_words, v_index, v_eqIS, v_neIS, v_eqB, v_neB])
def sp__law_rare : P1 := fun ds h Q => ∃ a c cs many, ds = [.ref a, .int many] ∧ 0 < many ∧ many < 2 ^ 64 ∧ Dr a c cs h ∧ ∀ b o, DrO c o → Q (.bool b) (up h a o)
theorem len__law_rare : ∀ ds h Q, sp__law_rare ds h Q → ds.length = 2 := fun ds h Q ⟨a, c, cs, m, e, _⟩ => by rw [e]; rfl
theorem sat__law_rare : ∀ ds h Q, sp__law_rare ds h Q → rd__law_rare sp__law_draw (endN Q) (startD 2 ds) h := by
  rintro ds h Q ⟨a, c, cs, many, rfl, hm, hm2, d, q⟩
  show rd__law_rare sp__law_draw (endN Q) [some (.ref a), some (.int many)] h
  unfold rd__law_rare
  walk_at "ev"
  exact ⟨a, c, cs, many, rfl, hm, hm2, d, fun r o _ _ k => ⟨divOk_of (by decide) (by decide), lh_of (q _ o k)⟩⟩
theorem LV.rare {h hh : MH} {a c : Addr} {cs : List Int} {ws : List (Addr × MO)} {Q : KD} (L : LV h a c cs hh ws) {n : Int} (hn : 0 < n) (hn2 : n < 2 ^ 64) (q : ∀ b h1, LV h a c cs h1 ws → Q (.bool b) h1) : sp__law_rare [.ref a, .int n] hh Q :=
  ⟨a, c, cs, n, rfl, hn, hn2, L.dr, fun b o k => q b _ (L.drawn k)⟩
end DL
namespace DL
open PySem PySem.Spec PyProof.Rows L2
local macro_rules | `(tactic| walk_at "ev") => `(tactic| try simp only [e_seq, e_next, e_brk, e_cnt, e_drop, e_ret, e_retN, e_ifS, e_asg, e_gN, e_gSb, e_gTp, e_gCn, e_gNl, e_var, e_varK, e_nth0, e_nthS, e_put0, e_putS, e_c, e_op, e_un, e_call, e_nil, e_cons, e_tup, e_lst, e_test, e_asB, e_tru, e_andT, e_orT, e_notT, e_andV, e_orV, e_notV, e_if, e_aug, e_augS, e_sl, e_part, e_partK, e_noPart, e_bm0, e_bm, e_join, e_yes, e_wipe0, e_wipeS, e_lc, e_for, v_add, v_addS, v_addT, v_iadd, v_sub, v_mul, v_fdiv, v_mod, v_pow, v_shl, v_shr, v_neg, v_lt, v_le, v_gt, v_ge, v_eqI, v_neI, v_eqS, v_neS, v_inS, v_ninS, v_inT, v_ninT, v_inR, v_ninR, v_inSeq, v_seqO, v_seqR, v_seqT, v_seqL, v_ixR, v_ixT, v_ixL, v_ixS, v_atK, v_atSK, v_get, v_getL, v_getK, v_set, v_setL, v_setK, v_on1, v_on2, v_lenR, v_lenT, v_lenL, v_lenS, v_seqK, v_tuple, v_list, v_abs, v_intI, v_intB, v_okL, v_isLst, v_app, v_lstK, v_slS, v_slT, v_join, v_is, v_isnot, v_max, v_min, v_iSeq, v_srcT, v_srcL, v_srcS, v_srcR, v_srcO, v_iRg1, v_rg1, v_truN, v_truB, v_truI, v_truS, v_truR, v_truT, v_truRol, v_truL, v_inRol, v_ninRol, v_inO, v_inOd, v_inDic, v_ixO, v_ixOd, v_ixSeq, v_ixDic, v_dgetK, v_ixStr, v_getO, v_getOd, v_setO, v_setOd, v_setDic, v_lenO, v_lenOd, e_dic0, e_disp, e_pairs0, e_pairsS, e_chain, v_bits, v_iRg3, v_rg3, v_iRg2, v_rg2, v_iEn, v_enT, v_enR, v_enO, v_iZp, v_zpT, v_zpR, v_zpO, v_repr, v_strI, v_strS, v_addR, v_and, v_slR, v_slL, v_ltS, v_srtT, v_srtR, v_srtO, v_srtD, v_revR, v_revT, v_isB, v_iZs, v_zsT, e_split, v_split, v_words, v_index, v_eqIS, v_neIS, v_eqB, v_neB])
def sp__law_shuffled : P1 := fun ds h Q => ∃ a c cs row xs, ds = [.ref a, row] ∧ Dr a c cs h ∧ seqOf h row = some xs ∧ row ≠ .ref a ∧ xs.length < 1000000 ∧ ∀ l o ys, h l = none → ys.Perm xs → DrO c o → Q (.ref l) (up (up h a o) l (.lst ys))
theorem len__law_shuffled : ∀ ds h Q, sp__law_shuffled ds h Q → ds.length = 2 := fun ds h Q ⟨a, c, cs, r, xs, e, _⟩ => by rw [e]; rfl
def shI (a lf fd c : Addr) (row : D) (h : MH) (xs : List D) (i : Nat) : Sl → MH → Prop := fun σ hh => ∃ o left found k, DrO c o ∧ left.length + i = xs.length ∧ found.length = i ∧ (found ++ left).Perm xs ∧ σ = [some (.ref a), some row, some (.ref lf), some (.ref fd), k] ∧ hh = up (up (up h a o) lf (.lst left)) fd (.lst found)
theorem sat__law_shuffled : ∀ ds h Q, sp__law_shuffled ds h Q → rd__law_shuffled sp__law_draw (endN Q) (startD 5 ds) h := by
  rintro ds h Q ⟨a, c, cs, row, xs, rfl, d, hr, hne, hl, q⟩
  show rd__law_shuffled sp__law_draw (endN Q) [some (.ref a), some row, none, none, none] h
  unfold rd__law_shuffled
  walk_at "ev"
  rw [hr]
  walk_at "ev"
  intro lf nlf
  have alf : a ≠ lf := by obtain ⟨u, e, _⟩ := d.st; exact nef e nlf
  have clf : c ≠ lf := nef d.ce nlf
  unfold rd__law_shuffled_1
  walk_at "ev"
  refine ⟨Nat.zero_le _, fun fd nfd => ?_⟩
  have lffd : lf ≠ fd := nef up_same nfd
  have nfd' : h fd = none := by rw [up_ne lffd.symm] at nfd; exact nfd
  have afd : a ≠ fd := by obtain ⟨u, e, _⟩ := d.st; exact nef e nfd'
  have cfd : c ≠ fd := nef d.ce nfd'
  unfold rd__law_shuffled_2
  walk_at "ev"
  rw [up_ne lffd, up_same]
  walk_at "ev"
  have len : (rgD 0 ((xs.length : Int)).toNat).length = xs.length := by unfold rgD; rw [List.length_map, List.length_range]; rfl
  obtain ⟨o0, e0, k0⟩ := d.st
  refine ⟨⟨by omega, by omega⟩, shI a lf fd c row h xs, Lw.of ⟨o0, xs, [], none, k0, rfl, rfl, by simp, rfl, by rw [up_id e0]⟩, fun _ _ _ _ => trivial, ?_, ?_⟩
  · rintro i x σ hh hx ⟨o, left, found, k, kk, hlen, hf, hp, rfl, rfl⟩
    have hi : i < xs.length := by rw [← len]; exact (List.getElem?_eq_some_iff.mp hx).1
    walk_at "ev"
    unfold rd__law_shuffled_b1
    walk_at "ev"
    rw [up_same, up_ne lffd, up_same]
    walk_at "ev"
    refine ⟨trivial, trivial, a, c, cs, _, rfl, by omega, by omega, ((d.up kk).put alf clf).put afd cfd, fun r o2 r0 r1 k2 => ?_⟩
    obtain ⟨j, rfl⟩ := Int.eq_ofNat_of_zero_le r0
    rw [v_pop, up_ne alf.symm, up_ne lffd, up_same]
    walk_at "ev"
    have hj : j < left.length := by omega
    refine ⟨j, left[j], ixN_of rfl hj, List.getElem?_eq_getElem hj, ⟨by omega, by omega⟩, ?_⟩
    rw [up_ne lffd.symm, up_ne afd.symm, up_same]
    walk_at "ev"
    refine ⟨Nat.lt_of_lt_of_le (show found.length < 1000000 by omega) (by decide), Lw.of ⟨o2, left.eraseIdx j, found ++ [left[j]], _, k2, ?_, by simp [hf], ?_, rfl, ?_⟩⟩
    · rw [List.length_eraseIdx_of_lt hj]; omega
    · refine List.Perm.trans ?_ hp
      rw [List.append_assoc]
      exact List.Perm.append_left _ (erase_perm left j hj)
    · funext b; unfold up
      by_cases b1 : b = fd <;> by_cases b2 : b = lf <;> by_cases b3 : b = a <;> simp_all
  · rintro σ hh ⟨o, left, found, k, kk, hlen, hf, hp, rfl, rfl⟩
    rw [len] at hlen hf
    have e : left = [] := List.eq_nil_of_length_eq_zero (by omega)
    subst e
    rw [List.append_nil] at hp
    walk_at "ev"
    unfold rd__law_shuffled_3
    walk_at "ev"
    refine ⟨up (up h a o) fd (.lst found), ?_, q fd o found nfd' hp kk⟩
    refine le.up2 (le.up ?_)
    rw [up_ne alf.symm]; exact nlf
theorem LV.shuf {h hh : MH} {a c l : Addr} {cs : List Int} {ws : List (Addr × MO)} {Q : KD} (L : LV h a c cs hh ws) {xs : List D} (e : hh l = some (.lst xs)) (la : l ≠ a) (hl : xs.length < 1000000) (q : ∀ (p : Addr) (ys : List D) (h1 : MH), p ≠ a → ys.Perm xs → LV h a c cs h1 ((p, .lst ys) :: ws) → Q (.ref p) h1) : sp__law_shuffled [.ref a, .ref l] hh Q :=
  ⟨a, c, cs, .ref l, xs, rfl, L.dr, (by show seqO (hh l) = _; rw [e]; rfl), (fun z => by cases z; exact la rfl), hl, fun p o ys np py k => by
    have pa := L.ne np
    have := (L.drawn k).new (p := p) (by rw [up_ne pa]; exact np) (.lst ys)
    exact q p ys _ pa py this⟩
/-- of a row that is one of a kind -/
theorem LV.shufT {h hh : MH} {a c l : Addr} {cs : List Int} {ws : List (Addr × MO)} {Q : KD} (L : LV h a c cs hh ws) {α : Type} (f : α → D) {xs : List α} (e : hh l = some (.lst (xs.map f))) (la : l ≠ a) (hl : xs.length < 1000000) (q : ∀ (p : Addr) (ys : List α) (h1 : MH), p ≠ a → ys.length = xs.length → (∀ y ∈ ys, y ∈ xs) → LV h a c cs h1 ((p, .lst (ys.map f)) :: ws) → Q (.ref p) h1) : sp__law_shuffled [.ref a, .ref l] hh Q :=
  L.shuf e la (by rw [List.length_map]; exact hl) fun p ys h1 pa py L1 => by
    have pre : ∀ {zs : List D}, (∀ z ∈ zs, z ∈ xs.map f) → ∃ m : List α, zs = m.map f ∧ ∀ x ∈ m, x ∈ xs := by
      intro zs
      induction zs with
      | nil => exact fun _ => ⟨[], rfl, by simp⟩
      | cons y r ih =>
        intro hz
        obtain ⟨m, e, q⟩ := ih fun z hz' => hz z (List.mem_cons_of_mem _ hz')
        obtain ⟨x, hx, ex⟩ := List.mem_map.mp (hz y (by simp))
        refine ⟨x :: m, by rw [List.map_cons, ex, e], fun z hz => ?_⟩
        rcases List.mem_cons.mp hz with rfl | hz
        · exact hx
        · exact q z hz
    obtain ⟨m, rfl, hm⟩ := pre fun z hz => py.mem_iff.mp hz
    exact q p m h1 pa (by have := py.length_eq; simpa using this) hm L1
end DL
namespace DL
open PySem PySem.Spec PyProof.Rows L2
local macro_rules | `(tactic| walk_at "ev") => `(tactic| try simp only [e_seq, e_next, e_brk, e_cnt, e_drop, e_ret, e_retN, e_ifS, e_asg, e_gN, e_gSb, e_gTp, e_gCn, e_gNl, e_var, e_varK, e_nth0, e_nthS, e_put0, e_putS, e_c, e_op, e_un, e_call, e_nil, e_cons, e_tup, e_lst, e_test, e_asB, e_tru, e_andT, e_orT, e_notT, e_andV, e_orV, e_notV, e_if, e_aug, e_augS, e_sl, e_part, e_partK, e_noPart, e_bm0, e_bm, e_join, e_yes, e_wipe0, e_wipeS, e_lc, e_for, v_add, v_addS, v_addT, v_iadd, v_sub, v_mul, v_fdiv, v_mod, v_pow, v_shl, v_shr, v_neg, v_lt, v_le, v_gt, v_ge, v_eqI, v_neI, v_eqS, v_neS, v_inS, v_ninS, v_inT, v_ninT, v_inR, v_ninR, v_inSeq, v_seqO, v_seqR, v_seqT, v_seqL, v_ixR, v_ixT, v_ixL, v_ixS, v_atK, v_atSK, v_get, v_getL, v_getK, v_set, v_setL, v_setK, v_on1, v_on2, v_lenR, v_lenT, v_lenL, v_lenS, v_seqK, v_tuple, v_list, v_abs, v_intI, v_intB, v_okL, v_isLst, v_app, v_lstK, v_slS, v_slT, v_join, v_is, v_isnot, v_max, v_min, v_iSeq, v_srcT, v_srcL, v_srcS, v_srcR, v_srcO, v_iRg1, v_rg1, v_truN, v_truB, v_truI, v_truS, v_truR, v_truT, v_truRol, v_truL, v_inRol, v_ninRol, v_inO, v_inOd, v_inDic, v_ixO, v_ixOd, v_ixSeq, v_ixDic, v_dgetK, v_ixStr, v_getO, v_getOd, v_setO, v_setOd, v_setDic, v_lenO, v_lenOd, e_dic0, e_disp, e_pairs0, e_pairsS, e_chain, v_bits, v_iRg3, v_rg3, v_iRg2, v_rg2, v_iEn, v_enT, v_enR, v_enO, v_iZp, v_zpT, v_zpR, v_zpO, v_repr, v_strI, v_strS, v_addR, v_and, v_slR, v_slL, v_ltS, v_srtT, v_srtR, v_srtO, v_srtD, v_revR, v_revT, v_isB, v_iZs, v_zsT, e_split, v_split, v_words, v_index, v_eqIS, v_neIS, v_eqB, v_neB])
def sp__law_pop : P1 := fun ds h Q => ∃ a c cs l xs, ds = [.ref a, .ref l] ∧ Dr a c cs h ∧ h l = some (.lst xs) ∧ l ≠ a ∧ 0 < xs.length ∧ xs.length < 1000000 ∧ ∀ j o x, xs[j]? = some x → DrO c o → Q x (up (up h a o) l (.lst (xs.eraseIdx j)))
theorem len__law_pop : ∀ ds h Q, sp__law_pop ds h Q → ds.length = 2 := fun ds h Q ⟨_, _, _, _, _, e, _⟩ => by rw [e]; rfl
theorem sat__law_pop : ∀ ds h Q, sp__law_pop ds h Q → rd__law_pop sp__law_draw (endN Q) (startD 2 ds) h := by
  rintro ds h Q ⟨a, c, cs, l, xs, rfl, d, el, la, h0, h1, q⟩
  show rd__law_pop sp__law_draw (endN Q) [some (.ref a), some (.ref l)] h
  unfold rd__law_pop
  walk_at "ev"
  rw [el]
  walk_at "ev"
  refine ⟨trivial, a, c, cs, _, rfl, by omega, by omega, d, fun r o r0 r1 k => ?_⟩
  obtain ⟨j, rfl⟩ := Int.eq_ofNat_of_zero_le r0
  have hj : j < xs.length := by omega
  rw [v_pop, up_ne la, el]
  walk_at "ev"
  exact ⟨j, xs[j], ixN_of rfl hj, List.getElem?_eq_getElem hj, ⟨by omega, by omega⟩, lh_of (q j o _ (List.getElem?_eq_getElem hj) k)⟩
theorem Ext.put {h H : MH} {a l : Addr} {o x : MO} (E : Ext h a o H) (n : h l = none) (ne : l ≠ a) : Ext h a o (up H l x) := by
  refine ⟨fun b u e => ?_, by rw [up_ne ne.symm]; exact E.at_⟩
  by_cases z : b = l
  · subst z; rw [up_ne ne, n] at e; cases e
  · rw [up_ne z]; exact E.le_ b u e
theorem Ext.lh {h H : MH} {a : Addr} {o : MO} {Q : KD} {x : D} (E : Ext h a o H) (q : Q x (up h a o)) : Lh Q x H := lh_le E.le_ q
theorem LV.pop {h hh : MH} {a c l : Addr} {cs : List Int} {ws : List (Addr × MO)} {Q : KD} (L : LV h a c cs hh ws) (i : Nat) {xs : List D} (e : ws[i]? = some (l, .lst xs)) (h0 : 0 < xs.length) (hl : xs.length < 1000000) (q : ∀ j x h1, xs[j]? = some x → LV h a c cs h1 (ws.set i (l, .lst (xs.eraseIdx j))) → Q x h1) : sp__law_pop [.ref a, .ref l] hh Q :=
  ⟨a, c, cs, l, xs, rfl, L.dr, L.get i e, L.na (List.mem_of_getElem? e), h0, hl, fun j o x hx k => q j x _ hx ((L.drawn k).set i e _)⟩
end DL
namespace DL
open PySem PySem.Spec PyProof.Rows L2
local macro_rules | `(tactic| walk_at "ev") => `(tactic| try simp only [e_seq, e_next, e_brk, e_cnt, e_drop, e_ret, e_retN, e_ifS, e_asg, e_gN, e_gSb, e_gTp, e_gCn, e_gNl, e_var, e_varK, e_nth0, e_nthS, e_put0, e_putS, e_c, e_op, e_un, e_call, e_nil, e_cons, e_tup, e_lst, e_test, e_asB, e_tru, e_andT, e_orT, e_notT, e_andV, e_orV, e_notV, e_if, e_aug, e_augS, e_sl, e_part, e_partK, e_noPart, e_bm0, e_bm, e_join, e_yes, e_wipe0, e_wipeS, e_lc, e_for, v_add, v_addS, v_addT, v_iadd, v_sub, v_mul, v_fdiv, v_mod, v_pow, v_shl, v_shr, v_neg, v_lt, v_le, v_gt, v_ge, v_eqI, v_neI, v_eqS, v_neS, v_inS, v_ninS, v_inT, v_ninT, v_inR, v_ninR, v_inSeq, v_seqO, v_seqR, v_seqT, v_seqL, v_ixR, v_ixT, v_ixL, v_ixS, v_atK, v_atSK, v_get, v_getL, v_getK, v_set, v_setL, v_setK, v_on1, v_on2, v_lenR, v_lenT, v_lenL, v_lenS, v_seqK, v_tuple, v_list, v_abs, v_intI, v_intB, v_okL, v_isLst, v_app, v_lstK, v_slS, v_slT, v_join, v_is, v_isnot, v_max, v_min, v_iSeq, v_srcT, v_srcL, v_srcS, v_srcR, v_srcO, v_iRg1, v_rg1, v_truN, v_truB, v_truI, v_truS, v_truR, v_truT, v_truRol, v_truL, v_inRol, v_ninRol, v_inO, v_inOd, v_inDic, v_ixO, v_ixOd, v_ixSeq, v_ixDic, v_dgetK, v_ixStr, v_getO, v_getOd, v_setO, v_setOd, v_setDic, v_lenO, v_lenOd, e_dic0, e_disp, e_pairs0, e_pairsS, e_chain, v_bits, v_iRg3, v_rg3, v_iRg2, v_rg2, v_iEn, v_enT, v_enR, v_enO, v_iZp, v_zpT, v_zpR, v_zpO, v_repr, v_strI, v_strS, v_addR, v_and, v_slR, v_slL, v_ltS, v_srtT, v_srtR, v_srtO, v_srtD, v_revR, v_revT, v_isB, v_iZs, v_zsT, e_split, v_split, v_words, v_index, v_eqIS, v_neIS, v_eqB, v_neB])
local macro_rules | `(tactic| walk_at "e0") => `(tactic| try simp only [e_seq, e_brk, e_cnt, e_drop, e_ret, e_retN, e_ifS, e_asg, e_gN, e_gSb, e_gTp, e_gCn, e_gNl, e_var, e_varK, e_nth0, e_nthS, e_put0, e_putS, e_c, e_op, e_un, e_call, e_nil, e_cons, e_tup, e_lst, e_test, e_asB, e_tru, e_andT, e_orT, e_notT, e_andV, e_orV, e_notV, e_if, e_aug, e_augS, e_sl, e_part, e_partK, e_noPart, e_bm0, e_bm, e_join, e_yes, e_wipe0, e_wipeS, e_lc, e_for, v_add, v_addS, v_addT, v_iadd, v_sub, v_mul, v_fdiv, v_mod, v_pow, v_shl, v_shr, v_neg, v_lt, v_le, v_gt, v_ge, v_eqI, v_neI, v_eqS, v_neS, v_inS, v_ninS, v_inT, v_ninT, v_inR, v_ninR, v_inSeq, v_seqO, v_seqR, v_seqT, v_seqL, v_ixR, v_ixT, v_ixL, v_ixS, v_atK, v_atSK, v_get, v_getL, v_getK, v_set, v_setL, v_setK, v_on1, v_on2, v_lenR, v_lenT, v_lenL, v_lenS, v_seqK, v_tuple, v_list, v_abs, v_intI, v_intB, v_okL, v_isLst, v_app, v_lstK, v_slS, v_slT, v_join, v_is, v_isnot, v_max, v_min, v_iSeq, v_srcT, v_srcL, v_srcS, v_srcR, v_srcO, v_iRg1, v_rg1, v_truN, v_truB, v_truI, v_truS, v_truR, v_truT, v_truRol, v_truL, v_inRol, v_ninRol, v_inO, v_inOd, v_inDic, v_ixO, v_ixOd, v_ixSeq, v_ixDic, v_dgetK, v_ixStr, v_getO, v_getOd, v_setO, v_setOd, v_setDic, v_lenO, v_lenOd, e_dic0, e_disp, e_pairs0, e_pairsS, e_chain, v_bits, v_iRg3, v_rg3, v_iRg2, v_rg2, v_iEn, v_enT, v_enR, v_enO, v_iZp, v_zpT, v_zpR, v_zpO, v_repr, v_strI, v_strS, v_addR, v_and, v_slR, v_slL, v_ltS, v_srtT, v_srtR, v_srtO, v_srtD, v_revR, v_revT, v_isB, v_iZs, v_zsT, v_eqIS, v_neIS, v_eqB, v_neB])
/-! ### texts in order -/
def leT (a b : Str) : Bool := leK (.str a) (.str b)
theorem leT_eq (a b : Str) : leT a b = PySem.W.sortLe (listOrd itemOrd) false (fun x : Str => PySem.W.keyToks (pd (.str x))) a b := rfl
theorem leT_tot : PySem.W.TotalLe leT := PySem.W.sortLe_total (listOrd itemOrd) false (fun x : Str => PySem.W.keyToks (pd (.str x)))
theorem leT_anti {a b : Str} (h1 : leT a b = true) (h2 : leT b a = true) : a = b := by
  have k : PySem.W.keyToks (pd (.str a)) = PySem.W.keyToks (pd (.str b)) := by
    refine (listOrd itemOrd).total _ _ ?_ ?_
    · have : (!(listOrd itemOrd).blt (PySem.W.keyToks (pd (.str a))) (PySem.W.keyToks (pd (.str b)))) = true := h2
      simpa using this
    · have : (!(listOrd itemOrd).blt (PySem.W.keyToks (pd (.str b))) (PySem.W.keyToks (pd (.str a)))) = true := h1
      simpa using this
  simp only [pd, PySem.W.keyToks] at k
  have k : a.cps.toList = b.cps.toList := by simpa using k
  have : a.cps = b.cps := Array.ext' k
  cases a; cases b; simp_all
/-- a row in order is one -/
theorem sorted_one {α : Type} {le : α → α → Bool} (anti : ∀ a b, le a b = true → le b a = true → a = b) : ∀ {l m : List α}, l.Perm m → l.Pairwise (fun a b => le a b = true) → m.Pairwise (fun a b => le a b = true) → l = m
  | [], m, p, _, _ => (List.Perm.eq_nil p.symm).symm ▸ rfl
  | a :: l, [], p, _, _ => by have := p.length_eq; simp at this
  | a :: l, b :: m, p, h1, h2 => by
    rw [List.pairwise_cons] at h1 h2
    have e : a = b := by
      have ha : a ∈ b :: m := p.mem_iff.mp (by simp)
      have hb : b ∈ a :: l := p.mem_iff.mpr (by simp)
      rcases List.mem_cons.mp ha with z | z
      · exact z
      · rcases List.mem_cons.mp hb with y | y
        · exact y.symm
        · exact anti _ _ (h1.1 b y) (h2.1 a z)
    subst e
    rw [sorted_one anti (List.Perm.cons_inv p) h1.2 h2.2]
def sortS (l : List Str) : List Str := l.mergeSort leT
theorem sortS_perm (l : List Str) : (sortS l).Perm l := List.mergeSort_perm _ _
theorem sortS_pw (l : List Str) : (sortS l).Pairwise (fun a b => leT a b = true) := PySem.W.sort_pairwise leT_tot l
/-- what sorted gives -/
theorem sorted_strs {l : List Str} {ys : List D} (p : ys.Perm (l.map D.str)) (s : ys.Pairwise (fun a b => leK a b = true)) : ys = (sortS l).map D.str := by
  have mem : ∀ y ∈ ys, ∃ x, y = D.str x := fun y hy => by
    obtain ⟨x, _, e⟩ := List.mem_map.mp (p.mem_iff.mp hy)
    exact ⟨x, e.symm⟩
  have ex : ∀ {zs : List D}, (∀ y ∈ zs, ∃ x, y = D.str x) → ∃ xs : List Str, zs = xs.map D.str := by
    intro zs
    induction zs with
    | nil => exact fun _ => ⟨[], rfl⟩
    | cons y r ih =>
      intro h
      obtain ⟨x, rfl⟩ := h y (by simp)
      obtain ⟨xs, rfl⟩ := ih fun z hz => h z (by simp [hz])
      exact ⟨x :: xs, rfl⟩
  obtain ⟨xs, rfl⟩ := ex mem
  have p2 : xs.Perm l := by
    have := p.map (fun d => match d with | .str x => x | _ => Str.ofString "")
    rw [List.map_map, List.map_map] at this
    simpa [Function.comp_def] using this
  rw [List.pairwise_map] at s
  rw [sorted_one (le := leT) (fun a b => leT_anti) (p2.trans (sortS_perm l).symm) s (sortS_pw l)]
theorem dget_dset (kvs : Kvs) (k v k' : D) : dget (dset kvs k v) k' = if nk k' = nk k then some v else dget kvs k' := by
  unfold dset
  by_cases c : (dget kvs k).isSome = true
  · rw [if_pos c]
    have key : ∀ l : Kvs, (l.map fun p => if nk p.1 = nk k then (p.1, v) else p).find? (fun p => decide (nk p.1 = nk k')) = (l.find? fun p => decide (nk p.1 = nk k')).map fun p => if nk p.1 = nk k then (p.1, v) else p := by
      intro l
      induction l with
      | nil => rfl
      | cons p r ih =>
        rw [List.map_cons, List.find?_cons, List.find?_cons]
        have e : nk (if nk p.1 = nk k then (p.1, v) else p).1 = nk p.1 := by split <;> rfl
        rw [e]
        cases decide (nk p.1 = nk k') with
        | true => rfl
        | false => exact ih
    unfold dget at c ⊢
    rw [key]
    by_cases e : nk k' = nk k
    · rw [if_pos e]
      rw [← e] at c
      cases q : kvs.find? fun p => decide (nk p.1 = nk k') with
      | none => rw [q] at c; cases c
      | some p =>
        have := List.find?_some q
        have : nk p.1 = nk k' := of_decide_eq_true this
        show some (if nk p.1 = nk k then (p.1, v) else p).2 = some v
        rw [if_pos (this.trans e)]
    · rw [if_neg e]
      cases q : kvs.find? fun p => decide (nk p.1 = nk k') with
      | none => rfl
      | some p =>
        have := List.find?_some q
        have : nk p.1 = nk k' := of_decide_eq_true this
        show some (if nk p.1 = nk k then (p.1, v) else p).2 = some p.2
        rw [if_neg fun z => e (this.symm.trans z)]
  · rw [if_neg c]
    unfold dget at c ⊢
    rw [List.find?_append]
    by_cases e : nk k' = nk k
    · rw [if_pos e]
      rw [← e] at c
      cases q : kvs.find? fun p => decide (nk p.1 = nk k') with
      | none => simp [e]
      | some p => rw [q] at c; exact absurd rfl c
    · rw [if_neg e]
      have : ([(k, v)] : Kvs).find? (fun p => decide (nk p.1 = nk k')) = none := by
        rw [List.find?_cons, decide_eq_false (Ne.symm e)]; rfl
      rw [this]
      cases kvs.find? fun p => decide (nk p.1 = nk k') <;> rfl
theorem nk_str {x y : Str} : (nk (.str x) = nk (.str y)) ↔ x = y := by
  simp [nk]
def fup {α : Type} (f : Str → α) (x : Str) (v : α) : Str → α := fun y => if y = x then v else f y
theorem fup_same {α : Type} {f : Str → α} {x : Str} {v : α} : fup f x v x = v := by unfold fup; rw [if_pos rfl]
theorem fup_ne {α : Type} {f : Str → α} {x y : Str} {v : α} (h : y ≠ x) : fup f x v y = f y := by unfold fup; rw [if_neg h]
structure DSt (kvs : Kvs) (f : Str → Option D) : Prop where
  all : kvs.all (fun p => (scaK p.1).isSome) = true
  get : ∀ x, dget kvs (.str x) = f x
theorem DSt.nil : DSt [] fun _ => none := ⟨rfl, fun _ => rfl⟩
theorem DSt.put {kvs : Kvs} {f : Str → Option D} (d : DSt kvs f) (r : Str) (v : D) : DSt (dset kvs (.str r) v) (fup f r (some v)) := by
  refine ⟨dset_all (P := fun k => (scaK k).isSome) d.all rfl, fun x => ?_⟩
  rw [dget_dset]
  unfold fup
  by_cases e : x = r
  · rw [if_pos (nk_str.mpr e), if_pos e]
  · rw [if_neg fun z => e (nk_str.mp z), if_neg e]; exact d.get x
theorem DSt.fit {kvs : Kvs} {f : Str → Option D} (d : DSt kvs f) (x : Str) : fit kvs (.str x) = true := by
  unfold DL.fit
  rw [d.all]; rfl
theorem DSt.to {kvs : Kvs} {f g : Str → Option D} (d : DSt kvs f) (e : ∀ x, f x = g x) : DSt kvs g := ⟨d.all, fun x => by rw [d.get x, e x]⟩
theorem alike_strs (l : List Str) : alikeB (l.map D.str) = true := by
  unfold alikeB
  simp [List.all_map, pd, PySem.W.alike]
theorem sorts_strs (l : List Str) : sortsB (l.map D.str) = true := by
  unfold sortsB
  rw [Bool.or_eq_true]
  right
  rw [List.all_map]
  exact List.all_eq_true.mpr fun _ _ => rfl
theorem pures_strs (n : Nat) (l : List Str) : pures? n (l.map D.str) = true := pures_of fun x hx => by
  obtain ⟨y, _, rfl⟩ := List.mem_map.mp hx
  simp [pure?]
def isIntB : D → Bool
  | .int _ => true
  | _ => false
theorem isi_pure {x : D} (p : pure? 60 x = true) {n : String} {b : Bool} (k : kitB (tyP x) n = some b) {h : MH} {Q : KD} : isiD x (.ty n) h Q = Q (.bool b) h := isi_eval (ty_pure p h) k
theorem eqF_str {x y : Str} : eqF (.str x) (.str y) = decide (x = y) := by unfold eqF; simp only [pd, eqv_str]
theorem any_strs (t : Str) : ∀ acc : List Str, ((acc.map D.str).any fun z => eqF z (.str t)) = decide (t ∈ acc)
  | [] => rfl
  | x :: r => by
    rw [List.map_cons, List.any_cons, any_strs t r, eqF_str]
    by_cases z : x = t
    · simp [z]
    · have z2 : ¬ t = x := fun q => z q.symm
      simp [z, z2]
theorem map_pre {α β : Type} {f : α → β} {l : List α} : ∀ {ys : List β}, (∀ y ∈ ys, y ∈ l.map f) → ∃ m : List α, ys = m.map f ∧ ∀ x ∈ m, x ∈ l
  | [], _ => ⟨[], rfl, by simp⟩
  | y :: r, h => by
    obtain ⟨m, e, q⟩ := map_pre (fun z hz => h z (List.mem_cons_of_mem _ hz))
    obtain ⟨x, hx, ex⟩ := List.mem_map.mp (h y (by simp))
    refine ⟨x :: m, by rw [List.map_cons, ex, e], fun z hz => ?_⟩
    rcases List.mem_cons.mp hz with rfl | hz
    · exact hx
    · exact q z hz
/-- a row of draws, over any source -/
theorem lcT_drawsS {h : MH} {a c : Addr} {cs : List Int} (d : Dr a c cs h) (P : D → Prop) {xs : List D} {stab : MH → Prop} {g : G1} {te : E1} {vs : List Nat} {σ : Sl} {Q : KD} (hz : xs.length ≤ sizeLine) (hs : ∀ o, stab (up h a o))
    (he : ∀ (i : Nat) (x : D) (o : MO) (Q' : KD), xs[i]? = some x → DrO c o → (∀ y o', P y → DrO c o' → Q' y (up h a o')) → g x (wipeD σ vs) (up h a o) fun σ2 h2 => te σ2 h2 Q')
    (fin : ∀ (acc : List D) (o : MO) (p : Addr), acc.length = xs.length → (∀ y ∈ acc, P y) → DrO c o → up h a o p = none → Q (.ref p) (up (up h a o) p (.lst acc))) : lcT xs stab g dYes te vs σ Q h := by
  obtain ⟨o0, e0, k0⟩ := d.st
  refine ⟨hz, fun i acc hh => ∃ o, hh = up h a o ∧ DrO c o ∧ acc.length = i ∧ ∀ y ∈ acc, P y, ⟨h, le.refl, o0, (up_id e0).symm, k0, rfl, by simp⟩, fun _ _ _ ⟨o, e, _⟩ => by rw [e]; exact hs o, ?_, ?_⟩
  · rintro i x acc hh hx ⟨o, rfl, k, hl, hP⟩
    refine he i x o (fun y h4 => ∃ h5, le h5 h4 ∧ ∃ o, h5 = up h a o ∧ DrO c o ∧ (acc ++ [y]).length = i + 1 ∧ ∀ z ∈ acc ++ [y], P z) hx k fun y o' hy k' => ⟨_, le.refl, o', rfl, k', by rw [List.length_append, hl]; rfl, fun z hz => ?_⟩
    rcases List.mem_append.mp hz with hz | hz
    · exact hP z hz
    · rw [List.mem_singleton.mp hz]; exact hy
  · rintro acc hh ⟨o, rfl, k, hl, hP⟩ p np
    exact fin acc o p hl hP k np
theorem kit_tup {x : D} (h : ∀ xs, x ≠ .tup xs) (p : pure? 60 x = true) : kitB (tyP x) "tuple" = some false := by
  cases x with
  | none => exact (show kitB "NoneType" "tuple" = some false by decide)
  | bool b => exact (show kitB "bool" "tuple" = some false by decide)
  | int b => exact (show kitB "int" "tuple" = some false by decide)
  | str b => exact (show kitB "str" "tuple" = some false by decide)
  | tup xs => exact absurd rfl (h xs)
  | rol b => exact (show kitB "list" "tuple" = some false by decide)
  | ref b => simp [pure?] at p
  | ty b => simp [pure?] at p
theorem kit_str {x : D} (h : ∀ z, x ≠ .str z) (p : pure? 60 x = true) : kitB (tyP x) "str" = some false := by
  cases x with
  | none => exact (show kitB "NoneType" "str" = some false by decide)
  | bool b => exact (show kitB "bool" "str" = some false by decide)
  | int b => exact (show kitB "int" "str" = some false by decide)
  | str b => exact absurd rfl (h b)
  | tup xs => exact (show kitB "tuple" "str" = some false by decide)
  | rol b => exact (show kitB "list" "str" = some false by decide)
  | ref b => simp [pure?] at p
  | ty b => simp [pure?] at p
theorem kit_tt (xs : List D) : kitB (tyP (.tup xs)) "tuple" = some true := (show kitB "tuple" "tuple" = some true by decide)
theorem kit_ss (z : Str) : kitB (tyP (.str z)) "str" = some true := (show kitB "str" "str" = some true by decide)
theorem eqF_str_inv {z : Str} {a : D} (h : eqF (.str z) a = true) : a = .str z := by
  unfold eqF at h
  cases a <;> simp [pd, PyData.eqv] at h
  rw [h]
theorem eqv_tt {xs ys : List PyData} : PyData.eqv (.tuple xs) (.tuple ys) = PyData.eqvAll xs ys := by simp only [PyData.eqv]
theorem eqv_cc {x y : PyData} {xs ys : List PyData} : PyData.eqvAll (x :: xs) (y :: ys) = (PyData.eqv x y && PyData.eqvAll xs ys) := by simp only [PyData.eqvAll]
theorem eqv_refl_strs : ∀ l : List Str, PyData.eqvAll (pds (l.map D.str)) (pds (l.map D.str)) = true
  | [] => by simp only [List.map_nil, pds, PyData.eqvAll]
  | x :: l => by
    rw [List.map_cons]
    simp only [pds, PyData.eqvAll, eqv_refl_strs l, pd, eqv_str, decide_true, Bool.and_self]
theorem ne_strs {p q : Addr} {l : List Str} {h : MH} {Q : KD} (e1 : h p = some (.lst (l.map D.str))) (e2 : h q = some (.lst (l.map D.str))) (k : Q (.bool false) h) : neD (.ref p) (.ref q) h Q := by
  have v : ∀ {a : Addr}, h a = some (.lst (l.map D.str)) → view h (.ref a) = some (.list (pds (l.map D.str))) := fun {a} e => by
    show viewO (h a) = _
    rw [e]
    show viewL (l.map D.str) = _
    unfold viewL
    rw [if_pos (pures_strs _ _)]
  show eqvO (view h (.ref p)) (view h (.ref q)) _
  rw [v e1, v e2]
  show Q (.bool (!PyData.eqv (.list _) (.list _))) h
  have : PyData.eqv (.list (pds (l.map D.str))) (.list (pds (l.map D.str))) = true := by
    simp only [PyData.eqv]; exact eqv_refl_strs l
  rw [this]; exact k
theorem sortS_eq {l m : List Str} (p : l.Perm m) : sortS l = sortS m := sorted_one (le := leT) (fun a b => leT_anti) ((sortS_perm l).trans (p.trans (sortS_perm m).symm)) (sortS_pw l) (sortS_pw m)
theorem erase_map {α β : Type} (f : α → β) : ∀ (l : List α) (j : Nat), (l.map f).eraseIdx j = (l.eraseIdx j).map f
  | [], _ => rfl
  | x :: r, 0 => rfl
  | x :: r, j + 1 => by show f x :: (r.map f).eraseIdx j = f x :: (r.eraseIdx j).map f; rw [erase_map f r j]
end DL
namespace DL
open PySem PySem.Spec PyProof.Rows L2
local macro_rules | `(tactic| walk_at "ev") => `(tactic| try simp only [e_seq, e_next, e_brk, e_cnt, e_drop, e_ret, e_retN, e_ifS, e_asg, e_gN, e_gSb, e_gTp, e_gCn, e_gNl, e_var, e_varK, e_nth0, e_nthS, e_put0, e_putS, e_c, e_op, e_un, e_call, e_nil, e_cons, e_tup, e_lst, e_test, e_asB, e_tru, e_andT, e_orT, e_notT, e_andV, e_orV, e_notV, e_if, e_aug, e_augS, e_sl, e_part, e_partK, e_noPart, e_bm0, e_bm, e_join, e_yes, e_wipe0, e_wipeS, e_lc, e_for, v_add, v_addS, v_addT, v_iadd, v_sub, v_mul, v_fdiv, v_mod, v_pow, v_shl, v_shr, v_neg, v_lt, v_le, v_gt, v_ge, v_eqI, v_neI, v_eqS, v_neS, v_inS, v_ninS, v_inT, v_ninT, v_inR, v_ninR, v_inSeq, v_seqO, v_seqR, v_seqT, v_seqL, v_ixR, v_ixT, v_ixL, v_ixS, v_atK, v_atSK, v_get, v_getL, v_getK, v_set, v_setL, v_setK, v_on1, v_on2, v_lenR, v_lenT, v_lenL, v_lenS, v_seqK, v_tuple, v_list, v_abs, v_intI, v_intB, v_okL, v_isLst, v_app, v_lstK, v_slS, v_slT, v_join, v_is, v_isnot, v_max, v_min, v_iSeq, v_srcT, v_srcL, v_srcS, v_srcR, v_srcO, v_iRg1, v_rg1, v_truN, v_truB, v_truI, v_truS, v_truR, v_truT, v_truRol, v_truL, v_inRol, v_ninRol, v_inO, v_inOd, v_inDic, v_ixO, v_ixOd, v_ixSeq, v_ixDic, v_dgetK, v_ixStr, v_getO, v_getOd, v_setO, v_setOd, v_setDic, v_lenO, v_lenOd, e_dic0, e_disp, e_pairs0, e_pairsS, e_chain, v_bits, v_iRg3, v_rg3, v_iRg2, v_rg2, v_iEn, v_enT, v_enR, v_enO, v_iZp, v_zpT, v_zpR, v_zpO, v_repr, v_strI, v_strS, v_addR, v_and, v_slR, v_slL, v_ltS, v_srtT, v_srtR, v_srtO, v_srtD, v_revR, v_eqIS, v_neIS, v_eqB, v_neB])
local macro_rules | `(tactic| walk_at "e0") => `(tactic| try simp only [e_seq, e_brk, e_cnt, e_drop, e_ret, e_retN, e_ifS, e_asg, e_gN, e_gSb, e_gTp, e_gCn, e_gNl, e_var, e_varK, e_nth0, e_nthS, e_put0, e_putS, e_c, e_op, e_un, e_call, e_nil, e_cons, e_tup, e_lst, e_test, e_asB, e_tru, e_andT, e_orT, e_notT, e_andV, e_orV, e_notV, e_if, e_aug, e_augS, e_sl, e_part, e_partK, e_noPart, e_bm0, e_bm, e_join, e_yes, e_wipe0, e_wipeS, e_lc, e_for, v_add, v_addS, v_addT, v_iadd, v_sub, v_mul, v_fdiv, v_mod, v_pow, v_shl, v_shr, v_neg, v_lt, v_le, v_gt, v_ge, v_eqI, v_neI, v_eqS, v_neS, v_inS, v_ninS, v_inT, v_ninT, v_inR, v_ninR, v_inSeq, v_seqO, v_seqR, v_seqT, v_seqL, v_ixR, v_ixT, v_ixL, v_ixS, v_atK, v_atSK, v_get, v_getL, v_getK, v_set, v_setL, v_setK, v_on1, v_on2, v_lenR, v_lenT, v_lenL, v_lenS, v_seqK, v_tuple, v_list, v_abs, v_intI, v_intB, v_okL, v_isLst, v_app, v_lstK, v_slS, v_slT, v_join, v_is, v_isnot, v_max, v_min, v_iSeq, v_srcT, v_srcL, v_srcS, v_srcR, v_srcO, v_iRg1, v_rg1, v_truN, v_truB, v_truI, v_truS, v_truR, v_truT, v_truRol, v_truL, v_inRol, v_ninRol, v_inO, v_inOd, v_inDic, v_ixO, v_ixOd, v_ixSeq, v_ixDic, v_dgetK, v_ixStr, v_getO, v_getOd, v_setO, v_setOd, v_setDic, v_lenO, v_lenOd, e_dic0, e_disp, e_pairs0, e_pairsS, e_chain, v_bits, v_iRg3, v_rg3, v_iRg2, v_rg2, v_iEn, v_enT, v_enR, v_enO, v_iZp, v_zpT, v_zpR, v_zpO, v_repr, v_strI, v_strS, v_addR, v_and, v_slR, v_slL, v_ltS, v_srtT, v_srtR, v_srtO, v_srtD, v_revR, v_revT, v_isB, v_iZs, v_zsT, v_eqIS, v_neIS, v_eqB, v_neB])
/-! plans, as data -/
structure Pl where
  asker : List Str
  group : List Str
  thing : List Str
  badge : List Str
  tags : List (Str × List Str)
  numbers : List (Str × List Str)
  flag : List Str
  asked : List Str
  action : List Str
  duty : List Str
  ties : List (Str × List Str × List Str)
  nevers : List (Str × List (Str × Bool) × List (Str × Bool))
def sD (l : List Str) : List D := l.map D.str
def tsD (l : List Str) : D := .tup (l.map D.str)
def rowD (r : Str × List Str) : D := .tup [.str r.1, tsD r.2]
def tieD (t : Str × List Str × List Str) : D := .tup [.str t.1, tsD t.2.1, tsD t.2.2]
def testD (x : Str × Bool) : D := .tup [.str x.1, .bool x.2]
def testsD (l : List (Str × Bool)) : D := .tup (l.map testD)
def nevD (n : Str × List (Str × Bool) × List (Str × Bool)) : D := .tup [.str n.1, testsD n.2.1, testsD n.2.2]
/-- a name -/
def GN (x : Str) : Prop := PyData.strOk x = true ∧ x.length ≤ 20
structure PlOk (v : Pl) : Prop where
  la : v.asker.length ≤ 50
  lg : v.group.length ≤ 50
  lt : v.thing.length ≤ 50
  lb : v.badge.length ≤ 50
  ltg : v.tags.length ≤ 50
  ltg2 : ∀ r ∈ v.tags, r.2.length ≤ 200
  lnu : v.numbers.length ≤ 50
  lnu2 : ∀ r ∈ v.numbers, r.2.length ≤ 200
  lti : v.ties.length ≤ 50
  lti2 : ∀ r ∈ v.ties, r.2.1.length ≤ 200 ∧ r.2.2.length ≤ 200
  lne : v.nevers.length ≤ 50
  lne2 : ∀ r ∈ v.nevers, r.2.1.length ≤ 200 ∧ r.2.2.length ≤ 200
  ga : ∀ x ∈ v.asker, GN x
  gg : ∀ x ∈ v.group, GN x
  gt : ∀ x ∈ v.thing, GN x
  gb : ∀ x ∈ v.badge, GN x
  gtg : ∀ r ∈ v.tags, GN r.1
  gnu : ∀ r ∈ v.numbers, GN r.1
  gti : ∀ r ∈ v.ties, GN r.1
  dis : ∀ x ∈ v.asker, x ∉ v.thing
  na : 0 < v.asker.length
  ng : 0 < v.group.length
  nt : 0 < v.thing.length
  nti : 0 < v.ties.length
def fieldOf (v : Pl) (x : Str) : Option (List D) :=
  if x = Str.ofString "asker" then some (sD v.asker) else if x = Str.ofString "group" then some (sD v.group)
  else if x = Str.ofString "thing" then some (sD v.thing) else if x = Str.ofString "badge" then some (sD v.badge)
  else if x = Str.ofString "tags" then some (v.tags.map rowD) else if x = Str.ofString "numbers" then some (v.numbers.map rowD)
  else if x = Str.ofString "flag" then some (sD v.flag) else if x = Str.ofString "asked" then some (sD v.asked)
  else if x = Str.ofString "action" then some (sD v.action) else if x = Str.ofString "duty" then some (sD v.duty)
  else if x = Str.ofString "ties" then some (v.ties.map tieD) else if x = Str.ofString "nevers" then some (v.nevers.map nevD) else none
section
variable {v : Pl}
theorem f_asker : fieldOf v (Str.ofString "asker") = some (sD v.asker) := by unfold fieldOf; rw [if_pos rfl]
theorem f_group : fieldOf v (Str.ofString "group") = some (sD v.group) := by unfold fieldOf; rw [if_neg (by decide), if_pos rfl]
theorem f_thing : fieldOf v (Str.ofString "thing") = some (sD v.thing) := by unfold fieldOf; rw [if_neg (by decide), if_neg (by decide), if_pos rfl]
theorem f_badge : fieldOf v (Str.ofString "badge") = some (sD v.badge) := by unfold fieldOf; rw [if_neg (by decide), if_neg (by decide), if_neg (by decide), if_pos rfl]
theorem f_tags : fieldOf v (Str.ofString "tags") = some (v.tags.map rowD) := by unfold fieldOf; rw [if_neg (by decide), if_neg (by decide), if_neg (by decide), if_neg (by decide), if_pos rfl]
theorem f_numbers : fieldOf v (Str.ofString "numbers") = some (v.numbers.map rowD) := by unfold fieldOf; rw [if_neg (by decide), if_neg (by decide), if_neg (by decide), if_neg (by decide), if_neg (by decide), if_pos rfl]
theorem f_ties : fieldOf v (Str.ofString "ties") = some (v.ties.map tieD) := by unfold fieldOf; rw [if_neg (by decide), if_neg (by decide), if_neg (by decide), if_neg (by decide), if_neg (by decide), if_neg (by decide), if_neg (by decide), if_neg (by decide), if_neg (by decide), if_neg (by decide), if_pos rfl]
theorem f_nevers : fieldOf v (Str.ofString "nevers") = some (v.nevers.map nevD) := by unfold fieldOf; rw [if_neg (by decide), if_neg (by decide), if_neg (by decide), if_neg (by decide), if_neg (by decide), if_neg (by decide), if_neg (by decide), if_neg (by decide), if_neg (by decide), if_neg (by decide), if_neg (by decide), if_pos rfl]
end
/-- a dict of lists at p; X tells the things that are still written -/
structure FAt (h : MH) (p : Addr) (F : Str → Option (List D)) (X : Addr → Prop) : Prop where
  np : ¬ X p
  ex : ∃ kvs, h p = some (.dic kvs) ∧ kvs.all (fun q => (scaK q.1).isSome) = true ∧ ∀ nm xs, F nm = some xs → ∃ l, dget kvs (.str nm) = some (.ref l) ∧ h l = some (.lst xs) ∧ ¬ X l
theorem FAt.ix {h : MH} {p : Addr} {F : Str → Option (List D)} {X : Addr → Prop} (P : FAt h p F X) {nm : Str} {xs : List D} (e : F nm = some xs) {Q : KD} (q : ∀ l, h l = some (.lst xs) → ¬ X l → Q (.ref l) h) : ixO (.str nm) h Q (h p) := by
  obtain ⟨kvs, ep, al, f⟩ := P.ex
  obtain ⟨l, el, hl, nl⟩ := f nm xs e
  rw [ep, v_ixOd, v_ixDic, el]
  refine ⟨?_, q l hl nl⟩
  unfold DL.fit
  rw [al]; rfl
theorem FAt.to {h h' : MH} {p : Addr} {F F' : Str → Option (List D)} {X X' : Addr → Prop} (P : FAt h p F X) (w : ∀ b u, h b = some u → ¬ X b → h' b = some u) (x : ∀ b, X' b → X b) (ff : ∀ nm xs, F' nm = some xs → F nm = some xs) : FAt h' p F' X' := by
  obtain ⟨kvs, ep, al, f⟩ := P.ex
  refine ⟨fun z => P.np (x _ z), kvs, w _ _ ep P.np, al, fun nm xs e => ?_⟩
  obtain ⟨l, el, hl, nl⟩ := f nm xs (ff nm xs e)
  exact ⟨l, el, w _ _ hl nl, fun z => nl (x _ z)⟩
theorem FAt.le {h h' : MH} {p : Addr} {F : Str → Option (List D)} {X : Addr → Prop} (P : FAt h p F X) (w : DL.le h h') : FAt h' p F X := P.to (fun b u e _ => w b u e) (fun _ z => z) fun _ _ e => e
theorem FAt.lv {h hh : MH} {a c p : Addr} {cs : List Int} {ws : List (Addr × MO)} {F : Str → Option (List D)} {X : Addr → Prop} (P : FAt h p F X) (L : LV h a c cs hh ws) (xa : X a) : FAt hh p F X := P.to (fun b u e n => L.old e fun z => n (z ▸ xa)) (fun _ z => z) fun _ _ e => e
/-- a plan's dict -/
structure PlAt (h : MH) (p : Addr) (v : Pl) (X : Addr → Prop) : Prop where
  ok : PlOk v
  at_ : FAt h p (fieldOf v) X
theorem PlAt.ix {h : MH} {p : Addr} {v : Pl} {X : Addr → Prop} (P : PlAt h p v X) {nm : Str} {xs : List D} (e : fieldOf v nm = some xs) {Q : KD} (q : ∀ l, h l = some (.lst xs) → ¬ X l → Q (.ref l) h) : ixO (.str nm) h Q (h p) := P.at_.ix e q
theorem PlAt.to {h h' : MH} {p : Addr} {v : Pl} {X X' : Addr → Prop} (P : PlAt h p v X) (w : ∀ b u, h b = some u → ¬ X b → h' b = some u) (x : ∀ b, X' b → X b) : PlAt h' p v X' := ⟨P.ok, P.at_.to w x fun _ _ e => e⟩
theorem PlAt.le {h h' : MH} {p : Addr} {v : Pl} {X : Addr → Prop} (P : PlAt h p v X) (w : DL.le h h') : PlAt h' p v X := ⟨P.ok, P.at_.le w⟩
theorem PlAt.lv {h hh : MH} {a c p : Addr} {cs : List Int} {ws : List (Addr × MO)} {v : Pl} {X : Addr → Prop} (P : PlAt h p v X) (L : LV h a c cs hh ws) (xa : X a) : PlAt hh p v X := ⟨P.ok, P.at_.lv L xa⟩
/-! reading rows -/
section
variable {h : MH} {Q : KD}
theorem row_0 {r : Str × List Str} : ixD (rowD r) (.int 0) h Q = Q (.str r.1) h := rfl
theorem row_1 {r : Str × List Str} : ixD (rowD r) (.int 1) h Q = Q (tsD r.2) h := rfl
theorem tie_0 {r : Str × List Str × List Str} : ixD (tieD r) (.int 0) h Q = Q (.str r.1) h := rfl
theorem tie_1 {r : Str × List Str × List Str} : ixD (tieD r) (.int 1) h Q = Q (tsD r.2.1) h := rfl
theorem tie_2 {r : Str × List Str × List Str} : ixD (tieD r) (.int 2) h Q = Q (tsD r.2.2) h := rfl
theorem in_ts {x : Str} {l : List Str} : inD (.str x) (tsD l) h Q = Q (.bool (decide (x ∈ l))) h := by
  unfold tsD
  rw [v_inT, v_inSeq, any_strs, pures_strs]
  simp [pure?]
theorem nin_ts {x : Str} {l : List Str} : ninD (.str x) (tsD l) h Q = Q (.bool (!decide (x ∈ l))) h := by
  unfold tsD
  rw [v_ninT, v_inSeq, any_strs, pures_strs]
  simp [pure?]
theorem inO_s {x : Str} {l : List Str} {k : Bool → Prop} : inO (.str x) k (some (.lst (l.map D.str))) = k (decide (x ∈ l)) := by
  rw [v_inO, v_inSeq, any_strs, pures_strs]
  simp [pure?]
theorem src_ts {l : List Str} {R : List D → (MH → Prop) → MH → Prop} : srcD (tsD l) h R = R (l.map D.str) (fun _ => True) h := rfl
theorem srt_s {l : List Str} {p : Addr} (e : h p = some (.lst (l.map D.str))) (hl : l.length ≤ 1000000) (q : ∀ p', h p' = none → Q (.ref p') (up h p' (.lst ((sortS l).map D.str)))) : sortedD (.ref p) h Q := by
  rw [v_srtR, e, v_srtO]
  refine ⟨pures_strs _ _, alike_strs _, sorts_strs _, by rw [List.length_map]; exact Nat.le_of_lt (sl_lt hl), fun ys p' hp hs np => ?_⟩
  rw [sorted_strs hp hs]
  exact q p' np
end
/-! the pool -/
def poolText : Str := (Str.ofString "a b2 sum left r k0 carry z9 full tail n m8 aa busy cnt p t4 even2 ab1 head u v2 w lowest high mid s t e " ++ Str.ofString "f g h i j k x y q7 deep turn l5 hold next1 o c0 d two near far9 last ring2 aaaaaaa8 b c1 ") ++ Str.ofString "top2 net3 row col7 v m q a1 yes9 no sal pot8 z kin"
def poolS : List Str := Txt.split poolText (Str.ofString " ")
theorem pool_all : (poolS.all fun x => PyData.strOk x && decide (x.length ≤ 8)) = true := by decide +kernel
theorem pool_len : poolS.length = 68 := by decide +kernel
theorem pool_ok : poolS.all okSB = true := by
  rw [List.all_eq_true]
  intro x hx
  have := List.all_eq_true.mp pool_all x hx
  rw [Bool.and_eq_true] at this
  unfold okSB
  rw [this.1, decide_eq_true (Nat.le_trans (of_decide_eq_true this.2) (by decide))]; rfl
theorem pool_GN : ∀ x ∈ poolS, GN x := fun x hx => by
  have := List.all_eq_true.mp pool_all x hx
  rw [Bool.and_eq_true] at this
  exact ⟨this.1, Nat.le_trans (of_decide_eq_true this.2) (by decide)⟩
def sp__law_pool : P1 := fun ds h Q => ds = [] ∧ ∀ l, h l = none → Q (.ref l) (up h l (.lst (poolS.map D.str)))
theorem len__law_pool : ∀ ds h Q, sp__law_pool ds h Q → ds.length = 0 := fun ds h Q ⟨e, _⟩ => by rw [e]; rfl
theorem pool_l1 : (Str.ofString "a b2 sum left r k0 carry z9 full tail n m8 aa busy cnt p t4 even2 ab1 head u v2 w lowest high mid s t e ").length + (Str.ofString "f g h i j k x y q7 deep turn l5 hold next1 o c0 d two near far9 last ring2 aaaaaaa8 b c1 ").length ≤ sizeLine := by decide +kernel
theorem pool_l2 : (Str.ofString "a b2 sum left r k0 carry z9 full tail n m8 aa busy cnt p t4 even2 ab1 head u v2 w lowest high mid s t e " ++ Str.ofString "f g h i j k x y q7 deep turn l5 hold next1 o c0 d two near far9 last ring2 aaaaaaa8 b c1 ").length + (Str.ofString "top2 net3 row col7 v m q a1 yes9 no sal pot8 z kin").length ≤ sizeLine := by decide +kernel
theorem pool_l3 : poolText.length + 2 ≤ sizeLine := by decide +kernel
theorem sat__law_pool : ∀ ds h Q, sp__law_pool ds h Q → rd__law_pool (endN Q) (startD 1 ds) h := by
  rintro ds h Q ⟨rfl, q⟩
  show rd__law_pool (endN Q) [none] h
  unfold rd__law_pool
  walk_at "ev"
  unfold rd__law_pool_1
  walk_at "ev"
  refine ⟨pool_l1, ?_⟩
  unfold rd__law_pool_2
  walk_at "ev"
  refine ⟨pool_l2, ⟨_, rfl⟩, by decide, pool_l3, pool_ok, fun l nl => ?_⟩
  exact lh_le le.refl (q l nl)
/-! tags, numbers of a kind; marks -/
def tagsOf (v : Pl) (k : Str) : List Str := sortS ((v.tags.filter fun r => decide (k ∈ r.2)).map (·.1))
def numbersOf (v : Pl) (k : Str) : List Str := sortS ((v.numbers.filter fun r => decide (k ∈ r.2)).map (·.1))
def sp__law_tags_of : P1 := fun ds h Q => ∃ (p : Addr) (v : Pl) (X : Addr → Prop) (k : Str), ds = [.ref p, .str k] ∧ PlAt h p v X ∧ ∀ l, h l = none → Q (.ref l) (up h l (.lst ((tagsOf v k).map D.str)))
theorem len__law_tags_of : ∀ ds h Q, sp__law_tags_of ds h Q → ds.length = 2 := fun ds h Q ⟨_, _, _, _, e, _⟩ => by rw [e]; rfl
theorem sat__law_tags_of : ∀ ds h Q, sp__law_tags_of ds h Q → rd__law_tags_of (endN Q) (startD 3 ds) h := by
  rintro ds h Q ⟨p, v, X, k, rfl, P, q⟩
  show rd__law_tags_of (endN Q) [some (.ref p), some (.str k), none] h
  have hl := P.ok.ltg
  unfold rd__law_tags_of
  walk_at "e0"
  refine P.ix f_tags fun l el nl => ?_
  rw [v_srcR, el]
  walk_at "e0"
  refine lcT_tf v.tags rowD (fun r => .str r.1) (fun r => decide (k ∈ r.2)) rfl (Nat.le_of_lt (sl_lt (by omega))) el (fun r hr Q' R hQ hR => ?_) fun p1 np1 => ?_
  · walk_at "e0"
    rw [row_1, in_ts]
    walk_at "e0"
    by_cases z : k ∈ r.2
    · rw [decide_eq_true z, if_pos rfl, row_0]; exact hQ (decide_eq_true z) _ le.refl
    · rw [decide_eq_false z, if_neg (by decide)]; exact hR (decide_eq_false z) _ le.refl
  · have em : (v.tags.filter fun r => decide (k ∈ r.2)).map (fun r => D.str r.1) = ((v.tags.filter fun r => decide (k ∈ r.2)).map (·.1)).map D.str := by rw [List.map_map]; rfl
    rw [em]
    have lf := List.length_filter_le (fun r : Str × List Str => decide (k ∈ r.2)) v.tags
    refine srt_s up_same (by rw [List.length_map]; omega) fun p2 np2 => ?_
    have n2 : h p2 = none := by rw [up_ne (nef up_same np2).symm] at np2; exact np2
    exact lh_le (le.up2 (le.up np1)) (q p2 n2)
def sp__law_numbers_of : P1 := fun ds h Q => ∃ (p : Addr) (v : Pl) (X : Addr → Prop) (k : Str), ds = [.ref p, .str k] ∧ PlAt h p v X ∧ ∀ l, h l = none → Q (.ref l) (up h l (.lst ((numbersOf v k).map D.str)))
theorem len__law_numbers_of : ∀ ds h Q, sp__law_numbers_of ds h Q → ds.length = 2 := fun ds h Q ⟨_, _, _, _, e, _⟩ => by rw [e]; rfl
theorem sat__law_numbers_of : ∀ ds h Q, sp__law_numbers_of ds h Q → rd__law_numbers_of (endN Q) (startD 3 ds) h := by
  rintro ds h Q ⟨p, v, X, k, rfl, P, q⟩
  show rd__law_numbers_of (endN Q) [some (.ref p), some (.str k), none] h
  have hl := P.ok.lnu
  unfold rd__law_numbers_of
  walk_at "e0"
  refine P.ix f_numbers fun l el nl => ?_
  rw [v_srcR, el]
  walk_at "e0"
  refine lcT_tf v.numbers rowD (fun r => .str r.1) (fun r => decide (k ∈ r.2)) rfl (Nat.le_of_lt (sl_lt (by omega))) el (fun r hr Q' R hQ hR => ?_) fun p1 np1 => ?_
  · walk_at "e0"
    rw [row_1, in_ts]
    walk_at "e0"
    by_cases z : k ∈ r.2
    · rw [decide_eq_true z, if_pos rfl, row_0]; exact hQ (decide_eq_true z) _ le.refl
    · rw [decide_eq_false z, if_neg (by decide)]; exact hR (decide_eq_false z) _ le.refl
  · have em : (v.numbers.filter fun r => decide (k ∈ r.2)).map (fun r => D.str r.1) = ((v.numbers.filter fun r => decide (k ∈ r.2)).map (·.1)).map D.str := by rw [List.map_map]; rfl
    rw [em]
    have lf := List.length_filter_le (fun r : Str × List Str => decide (k ∈ r.2)) v.numbers
    refine srt_s up_same (by rw [List.length_map]; omega) fun p2 np2 => ?_
    have n2 : h p2 = none := by rw [up_ne (nef up_same np2).symm] at np2; exact np2
    exact lh_le (le.up2 (le.up np1)) (q p2 n2)
def marksOf (v : Pl) : List Str := (v.tags.filter fun r => !(r.2.filter fun k => decide (k ∈ v.group)).isEmpty).map (·.1)
def sp__law_marks : P1 := fun ds h Q => ∃ (p : Addr) (v : Pl) (X : Addr → Prop), ds = [.ref p] ∧ PlAt h p v X ∧ ∀ l, h l = none → Q (.ref l) (up h l (.lst ((marksOf v).map D.str)))
theorem len__law_marks : ∀ ds h Q, sp__law_marks ds h Q → ds.length = 1 := fun ds h Q ⟨_, _, _, e, _⟩ => by rw [e]; rfl
theorem sat__law_marks : ∀ ds h Q, sp__law_marks ds h Q → rd__law_marks (endN Q) (startD 3 ds) h := by
  rintro ds h Q ⟨p, v, X, rfl, P, q⟩
  show rd__law_marks (endN Q) [some (.ref p), none, none] h
  have hl := P.ok.ltg
  unfold rd__law_marks
  walk_at "e0"
  refine P.ix f_tags fun l el nl => ?_
  rw [v_srcR, el]
  walk_at "e0"
  refine lcT_tf v.tags rowD (fun r => .str r.1) (fun r => !(r.2.filter fun k => decide (k ∈ v.group)).isEmpty) rfl (Nat.le_of_lt (sl_lt (by omega))) el (fun r hr Q' R hQ hR => ?_) fun p1 np1 => ?_
  · have l2 := P.ok.ltg2 r hr
    walk_at "e0"
    rw [row_1, src_ts]
    refine lcT_tf r.2 D.str D.str (fun k => decide (k ∈ v.group)) rfl (Nat.le_of_lt (sl_lt (by omega))) trivial (fun k hk Q2 R2 hQ2 hR2 => ?_) fun p2 np2 => ?_
    · walk_at "e0"
      refine P.ix f_group fun g eg ng => ?_
      rw [v_inR, eg]
      show inO (.str k) _ (some (.lst (v.group.map D.str)))
      rw [inO_s]
      walk_at "e0"
      by_cases z : k ∈ v.group
      · rw [decide_eq_true z, if_pos rfl]; exact hQ2 (decide_eq_true z) _ le.refl
      · rw [decide_eq_false z, if_neg (by decide)]; exact hR2 (decide_eq_false z) _ le.refl
    · rw [v_lenR, up_same]
      walk_at "e0"
      rw [List.length_map]
      cases hf : r.2.filter fun k => decide (k ∈ v.group) with
      | nil =>
        rw [hf] at hR
        rw [if_neg (by simp)]
        exact hR rfl _ (le.up np2)
      | cons x xs =>
        rw [hf] at hQ
        rw [if_pos (by simp), row_0]
        exact hQ rfl _ (le.up np2)
  · have em : (v.tags.filter fun r => !(r.2.filter fun k => decide (k ∈ v.group)).isEmpty).map (fun r => D.str r.1) = (marksOf v).map D.str := by unfold marksOf; rw [List.map_map]; rfl
    rw [em]
    exact lh_le le.refl (q p1 np1)
end DL
namespace DL
open PySem PySem.Spec PyProof.Rows L2
local macro_rules | `(tactic| walk_at "ev") => `(tactic| try simp only [e_seq, e_next, e_brk, e_cnt, e_drop, e_ret, e_retN, e_ifS, e_asg, e_gN, e_gSb, e_gTp, e_gCn, e_gNl, e_var, e_varK, e_nth0, e_nthS, e_put0, e_putS, e_c, e_op, e_un, e_call, e_nil, e_cons, e_tup, e_lst, e_test, e_asB, e_tru, e_andT, e_orT, e_notT, e_andV, e_orV, e_notV, e_if, e_aug, e_augS, e_sl, e_part, e_partK, e_noPart, e_bm0, e_bm, e_join, e_yes, e_wipe0, e_wipeS, e_lc, e_for, v_add, v_addS, v_addT, v_iadd, v_sub, v_mul, v_fdiv, v_mod, v_pow, v_shl, v_shr, v_neg, v_lt, v_le, v_gt, v_ge, v_eqI, v_neI, v_eqS, v_neS, v_inS, v_ninS, v_inT, v_ninT, v_inR, v_ninR, v_inSeq, v_seqO, v_seqR, v_seqT, v_seqL, v_ixR, v_ixT, v_ixL, v_ixS, v_atK, v_atSK, v_get, v_getL, v_getK, v_set, v_setL, v_setK, v_on1, v_on2, v_lenR, v_lenT, v_lenL, v_lenS, v_seqK, v_tuple, v_list, v_abs, v_intI, v_intB, v_okL, v_isLst, v_app, v_lstK, v_slS, v_slT, v_join, v_is, v_isnot, v_max, v_min, v_iSeq, v_srcT, v_srcL, v_srcS, v_srcR, v_srcO, v_iRg1, v_rg1, v_truN, v_truB, v_truI, v_truS, v_truR, v_truT, v_truRol, v_truL, v_inRol, v_ninRol, v_inO, v_inOd, v_inDic, v_ixO, v_ixOd, v_ixSeq, v_ixDic, v_dgetK, v_ixStr, v_getO, v_getOd, v_setO, v_setOd, v_setDic, v_lenO, v_lenOd, e_dic0, e_disp, e_pairs0, e_pairsS, e_chain, v_bits, v_iRg3, v_rg3, v_iRg2, v_rg2, v_iEn, v_enT, v_enR, v_enO, v_iZp, v_zpT, v_zpR, v_zpO, v_repr, v_strI, v_strS, v_addR, v_and, v_slR, v_slL, v_ltS, v_srtT, v_srtR, v_srtO, v_srtD, v_revR, v_revT, v_isB, v_iZs, v_zsT, e_split, v_split, v_words, v_index, v_eqIS, v_neIS, v_eqB, v_neB])
local macro_rules | `(tactic| walk_at "e0") => `(tactic| try simp only [e_seq, e_brk, e_cnt, e_drop, e_ret, e_retN, e_ifS, e_asg, e_gN, e_gSb, e_gTp, e_gCn, e_gNl, e_var, e_varK, e_nth0, e_nthS, e_put0, e_putS, e_c, e_op, e_un, e_call, e_nil, e_cons, e_tup, e_lst, e_test, e_asB, e_tru, e_andT, e_orT, e_notT, e_andV, e_orV, e_notV, e_if, e_aug, e_augS, e_sl, e_part, e_partK, e_noPart, e_bm0, e_bm, e_join, e_yes, e_wipe0, e_wipeS, e_lc, e_for, v_add, v_addS, v_addT, v_iadd, v_sub, v_mul, v_fdiv, v_mod, v_pow, v_shl, v_shr, v_neg, v_lt, v_le, v_gt, v_ge, v_eqI, v_neI, v_eqS, v_neS, v_inS, v_ninS, v_inT, v_ninT, v_inR, v_ninR, v_inSeq, v_seqO, v_seqR, v_seqT, v_seqL, v_ixR, v_ixT, v_ixL, v_ixS, v_atK, v_atSK, v_get, v_getL, v_getK, v_set, v_setL, v_setK, v_on1, v_on2, v_lenR, v_lenT, v_lenL, v_lenS, v_seqK, v_tuple, v_list, v_abs, v_intI, v_intB, v_okL, v_isLst, v_app, v_lstK, v_slS, v_slT, v_join, v_is, v_isnot, v_max, v_min, v_iSeq, v_srcT, v_srcL, v_srcS, v_srcR, v_srcO, v_iRg1, v_rg1, v_truN, v_truB, v_truI, v_truS, v_truR, v_truT, v_truRol, v_truL, v_inRol, v_ninRol, v_inO, v_inOd, v_inDic, v_ixO, v_ixOd, v_ixSeq, v_ixDic, v_dgetK, v_ixStr, v_getO, v_getOd, v_setO, v_setOd, v_setDic, v_lenO, v_lenOd, e_dic0, e_disp, e_pairs0, e_pairsS, e_chain, v_bits, v_iRg3, v_rg3, v_iRg2, v_rg2, v_iEn, v_enT, v_enR, v_enO, v_iZp, v_zpT, v_zpR, v_zpO, v_repr, v_strI, v_strS, v_addR, v_and, v_slR, v_slL, v_ltS, v_srtT, v_srtR, v_srtO, v_srtD, v_revR, v_revT, v_isB, v_iZs, v_zsT, v_eqIS, v_neIS, v_eqB, v_neB])
/-! rows by draws, on LV -/
section
variable {α : Type} {h hh : MH} {a c : Addr} {cs : List Int} {ws : List (Addr × MO)} {xs : List D} {stab : MH → Prop} {g : G1} {te : E1} {tt : T1} {vs : List Nat} {σ : Sl} {Q : KD}
theorem lcT_sub (L : LV h a c cs hh ws) (ys : List α) (e f : α → D) (ex : xs = ys.map e) (hz : ys.length ≤ 1000000) (hs : ∀ h1, LV h a c cs h1 ws → stab h1)
    (he : ∀ y ∈ ys, ∀ (h1 : MH) (Q' : KD) (R : MH → Prop), LV h a c cs h1 ws → (∀ h2, LV h a c cs h2 ws → Q' (f y) h2) → (∀ h2, LV h a c cs h2 ws → R h2) → g (e y) (wipeD σ vs) h1 fun σ2 h2 => tt σ2 h2 fun b h3 => if b = true then te σ2 h3 Q' else R h3)
    (fin : ∀ (zs : List α) (p : Addr) (h1 : MH), zs.Sublist ys → p ≠ a → LV h a c cs h1 ((p, .lst (zs.map f)) :: ws) → Q (.ref p) h1) : lcT xs stab g tt te vs σ Q hh := by
  subst ex
  refine ⟨by rw [List.length_map]; exact Nat.le_of_lt (sl_lt hz), fun i acc h1 => ∃ zs : List α, LV h a c cs h1 ws ∧ acc = zs.map f ∧ zs.Sublist (ys.take i), ⟨hh, le.refl, [], L, rfl, List.nil_sublist _⟩, fun i acc h1 ⟨_, L1, _⟩ => hs h1 L1, ?_, ?_⟩
  · rintro i x acc h1 hx ⟨zs, L1, rfl, sub⟩
    rw [List.getElem?_map] at hx
    obtain ⟨y, hy, rfl⟩ := Option.map_eq_some_iff.mp hx
    obtain ⟨hi, ey⟩ := List.getElem?_eq_some_iff.mp hy
    have et : ys.take (i + 1) = ys.take i ++ [y] := by rw [List.take_succ_eq_append_getElem hi, ey]
    refine he y (List.mem_of_getElem? hy) h1 (fun z h4 => ∃ h5, le h5 h4 ∧ ∃ zs' : List α, LV h a c cs h5 ws ∧ zs.map f ++ [z] = zs'.map f ∧ zs'.Sublist (ys.take (i + 1))) (fun h4 => ∃ h5, le h5 h4 ∧ ∃ zs' : List α, LV h a c cs h5 ws ∧ zs.map f = zs'.map f ∧ zs'.Sublist (ys.take (i + 1))) L1 (fun h2 L2 => ⟨h2, le.refl, zs ++ [y], L2, by rw [List.map_append]; rfl, by rw [et]; exact sub.append (List.Sublist.refl _)⟩) fun h2 L2 => ⟨h2, le.refl, zs, L2, rfl, by rw [et]; exact sub.trans (List.sublist_append_left _ _)⟩
  · rintro acc h1 ⟨zs, L1, rfl, sub⟩ p np
    rw [List.length_map, List.take_length] at sub
    exact fin zs p _ sub (L1.ne np) (L1.new np _)
/-- nothing is tested; P tells of each -/
theorem lcT_each (L : LV h a c cs hh ws) (ys : List α) (e : α → D) (P : α → D → Prop) (ex : xs = ys.map e) (hz : ys.length ≤ 1000000) (hs : ∀ h1, LV h a c cs h1 ws → stab h1)
    (he : ∀ y ∈ ys, ∀ (h1 : MH) (Q' : KD), LV h a c cs h1 ws → (∀ z h2, P y z → LV h a c cs h2 ws → Q' z h2) → g (e y) (wipeD σ vs) h1 fun σ2 h2 => te σ2 h2 Q')
    (fin : ∀ (acc : List D) (p : Addr) (h1 : MH), Paired P ys acc → p ≠ a → LV h a c cs h1 ((p, .lst acc) :: ws) → Q (.ref p) h1) : lcT xs stab g dYes te vs σ Q hh := by
  subst ex
  refine ⟨by rw [List.length_map]; exact Nat.le_of_lt (sl_lt hz), fun i acc h1 => LV h a c cs h1 ws ∧ Paired P (ys.take i) acc, ⟨hh, le.refl, L, .nil⟩, fun i acc h1 ⟨L1, _⟩ => hs h1 L1, ?_, ?_⟩
  · rintro i x acc h1 hx ⟨L1, pr⟩
    rw [List.getElem?_map] at hx
    obtain ⟨y, hy, rfl⟩ := Option.map_eq_some_iff.mp hx
    obtain ⟨hi, ey⟩ := List.getElem?_eq_some_iff.mp hy
    refine he y (List.mem_of_getElem? hy) h1 (fun z h4 => ∃ h5, le h5 h4 ∧ LV h a c cs h5 ws ∧ Paired P (ys.take (i + 1)) (acc ++ [z])) L1 fun z h2 hz L2 => ⟨h2, le.refl, L2, ?_⟩
    rw [List.take_succ_eq_append_getElem hi, ey]
    exact P2.append pr (.cons hz .nil)
  · rintro acc h1 ⟨L1, pr⟩ p np
    rw [List.length_map, List.take_length] at pr
    exact fin acc p _ pr (L1.ne np) (L1.new np _)
end
/-! a list of the caller's is written: the base moves -/
theorem LV.base {h hh : MH} {a c pl : Addr} {cs : List Int} {ws : List (Addr × MO)} (L : LV h a c cs hh ws) {u : MO} (e : h pl = some u) (pa : pl ≠ a) (pc : pl ≠ c) (x : MO) : LV (up h pl x) a c cs (up hh pl x) ws := by
  obtain ⟨o, k, E⟩ := L.ext
  have nw : ∀ p ∈ ws, p.1 ≠ pl := fun p hp z => by
    have := L.fr p hp
    rw [z, e] at this; cases this
  refine ⟨L.dr0.put (Ne.symm pa) (Ne.symm pc), ⟨o, k, ?_, by rw [up_ne pa.symm]; exact E.at_⟩, fun p hp => by rw [up_ne (nw p hp)]; exact L.at_ p hp, fun p hp => by rw [up_ne (nw p hp)]; exact L.fr p hp, L.nd⟩
  rw [up_com pa]
  exact le.up2 E.le_
theorem LV.cast {h h' hh hh' : MH} {a c : Addr} {cs : List Int} {ws : List (Addr × MO)} (L : LV h a c cs hh ws) (e : h = h') (e2 : hh = hh') : LV h' a c cs hh' ws := by subst e; subst e2; exact L
/-- a pop from the caller's row -/
theorem LV.popB {h hh : MH} {a c pl : Addr} {cs : List Int} {ws : List (Addr × MO)} {Q : KD} {P : List Str} (L : LV (up h pl (.lst (P.map D.str))) a c cs hh ws) (pa : pl ≠ a) (pc : pl ≠ c) (h0 : 0 < P.length) (hl : P.length < 100000)
    (q : ∀ (j : Nat) (x : Str) (h1 : MH), P[j]? = some x → LV (up h pl (.lst ((P.eraseIdx j).map D.str))) a c cs h1 ws → Q (.str x) h1) : sp__law_pop [.ref a, .ref pl] hh Q := by
  refine ⟨a, c, cs, pl, P.map D.str, rfl, L.dr, L.old up_same pa, pa, by rw [List.length_map]; exact h0, by rw [List.length_map]; omega, fun j o x hx k => ?_⟩
  rw [List.getElem?_map] at hx
  obtain ⟨z, hz, rfl⟩ := Option.map_eq_some_iff.mp hx
  refine q j z _ hz ?_
  have := (L.drawn k).base up_same pa pc (.lst ((P.eraseIdx j).map D.str))
  rw [up_up] at this
  rw [erase_map]
  exact this
theorem perm_erase {α : Type} {P : List α} {j : Nat} {x : α} (h : P[j]? = some x) : (x :: P.eraseIdx j).Perm P := by
  obtain ⟨hj, rfl⟩ := List.getElem?_eq_some_iff.mp h
  exact erase_perm P j hj
theorem filt_add {α : Type} (p : α → Bool) : ∀ l : List α, (l.filter fun x => !p x).length + (l.filter p).length = l.length
  | [] => rfl
  | x :: l => by
    have ih := filt_add p l
    rw [List.filter_cons, List.filter_cons]
    cases p x <;> simp <;> omega
/-! some of a row -/
def sp__law_some : P1 := fun ds h Q => ∃ (a c : Addr) (cs : List Int) (R : List Str) (rl : Addr) (k : Nat), ds = [.ref a, .ref rl, .int (k : Nat)] ∧ Dr a c cs h ∧ rl ≠ a ∧ h rl = some (.lst (R.map D.str)) ∧ R.length ≤ 1000 ∧ k ≤ 1000 ∧
  ∀ (S : List Str) (o : MO) (p : Addr), DrO c o → (∀ x ∈ S, x ∈ R) → S.length ≤ R.length → (0 < k → 0 < R.length → 0 < S.length) → h p = none → Q (.ref p) (up (up h a o) p (.lst (S.map D.str)))
theorem len__law_some : ∀ ds h Q, sp__law_some ds h Q → ds.length = 3 := fun ds h Q ⟨_, _, _, _, _, _, e, _⟩ => by rw [e]; rfl
theorem eqO_2 {h : MH} {Q : KD} {j : Int} : eqD (.int j) (.int 0) h Q = Q (.bool (decide (j = 0))) h := v_eqI
theorem sat__law_some : ∀ ds h Q, sp__law_some ds h Q → rd__law_some sp__law_draw (endN Q) (startD 6 ds) h := by
  rintro ds h Q ⟨a, c, cs, R, rl, k, rfl, d, ra, er, hR, hk, q⟩
  have L0 := LV.start d
  show rd__law_some sp__law_draw (endN Q) [some (.ref a), some (.ref rl), some (.int (k : Nat)), none, none, none] h
  unfold rd__law_some
  walk_at "e0"
  rw [er]
  walk_at "e0"
  refine lcT_sub L0 R D.str D.str rfl (by omega) (fun h1 L1 => (by show h1 rl = _; exact L1.old er ra)) (fun y hy h1 Q' R' L1 hQ hR' => ?_) fun S1 fl h1 sub fa L1 => ?_
  · walk_at "e0"
    refine L1.draw (by decide) (by decide) fun r h2 r0 r1 L2 => ?_
    walk_at "e0"
    by_cases z : r = 0
    · rw [decide_eq_true z, if_pos rfl]; exact hQ _ L2
    · rw [decide_eq_false z, if_neg (by decide)]; exact hR' _ L2
  have s1 : ∀ x ∈ S1, x ∈ R := fun x hx => sub.subset hx
  have l1 := sub.length_le
  unfold rd__law_some_1
  walk_at "e0"
  rw [L1.old er ra]
  walk_at "e0"
  refine lcT_tf R D.str D.str (fun x => !decide (x ∈ S1)) rfl (Nat.le_of_lt (sl_lt (by omega))) (by show h1 rl = _; exact L1.old er ra) (fun y hy Q' R' hQ hR' => ?_) ?_
  · walk_at "e0"
    rw [L1.get 0 rfl]
    rw [inO_s]
    by_cases z : y ∈ S1
    · have zt := decide_eq_true z
      rw [zt]
      walk_at "e0"
      rw [if_neg (by decide)]; exact hR' (by rw [zt]; rfl) _ le.refl
    · have zt := decide_eq_false z
      rw [zt]
      walk_at "e0"
      rw [if_pos (by decide)]; exact hQ (by rw [zt]; rfl) _ le.refl
  intro ll nll
  generalize ell : up _ ll _ = h2
  have L2 := L1.newE nll ell
  have l2 := List.length_filter_le (fun x => !decide (x ∈ S1)) R
  have part : (R.filter fun x => !decide (x ∈ S1)).length + (R.filter fun x => decide (x ∈ S1)).length = R.length := by
    exact filt_add (fun x => decide (x ∈ S1)) R
  have sl : S1.length ≤ (R.filter fun x => decide (x ∈ S1)).length := by
    have := sub.filter fun x => decide (x ∈ S1)
    have e : S1.filter (fun x => decide (x ∈ S1)) = S1 := by rw [List.filter_eq_self]; exact fun x hx => decide_eq_true hx
    rw [e] at this
    exact this.length_le
  have hne : 0 < R.length → 0 < S1.length ∨ 0 < (R.filter fun x => !decide (x ∈ S1)).length := fun h => by
    cases S1 with
    | nil => right; rw [show R.filter (fun x => !decide (x ∈ ([] : List Str))) = R by simp]; exact h
    | cons x t => left; simp
  have hin : ∀ x ∈ R.filter (fun x => !decide (x ∈ S1)), x ∈ R := fun x hx => (List.mem_filter.mp hx).1
  generalize (R.filter fun x => !decide (x ∈ S1)) = T at L2 l2 part hne hin
  unfold rd__law_some_2
  walk_at "e0"
  unfold dWhile
  refine ⟨fun m σ hh => ∃ S T : List Str, LV h a c cs hh [(ll, .lst (T.map D.str)), (fl, .lst (S.map D.str))] ∧ T.length = m ∧ (∀ x ∈ S, x ∈ R) ∧ (∀ x ∈ T, x ∈ R) ∧ S.length + T.length ≤ R.length ∧ (0 < R.length → 0 < S.length ∨ 0 < T.length) ∧ σ = [some (.ref a), some (.ref rl), some (.int (k : Nat)), some (.ref fl), some (.ref ll), none], ⟨T.length, Lw.of ⟨S1, T, L2, rfl, s1, hin, by omega, hne, rfl⟩⟩, ?_⟩
  rintro m σ hh ⟨S, T, L, hT, sS, sT, hl, hn, rfl⟩
  walk_at "e0"
  rw [L.get 1 rfl]
  walk_at "e0"
  rw [List.length_map]
  have fin : (k ≤ S.length ∨ T.length = 0) → rd__law_some_3 sp__law_draw (endN Q) [some (.ref a), some (.ref rl), some (.int (k : Nat)), some (.ref fl), some (.ref ll), none] hh := fun hc => by
    unfold rd__law_some_3
    walk_at "e0"
    exact L.retN (p := fl) (x := .lst (S.map D.str)) (by simp) fun o kk n => q S o fl kk sS (by omega) (fun k0 r0 => by
      rcases hn r0 with z | z
      · exact z
      · omega) n
  by_cases c1 : (S.length : Int) < (k : Int)
  · rw [if_pos (decide_eq_true c1), L.get 0 rfl]
    walk_at "e0"
    rw [List.length_map]
    by_cases c2 : (0 : Int) < (T.length : Int)
    · rw [if_pos (decide_eq_true c2)]
      unfold rd__law_some_b1
      walk_at "e0"
      rw [L.get 1 rfl, L.get 0 rfl]
      walk_at "e0"
      rw [List.length_map]
      refine ⟨trivial, trivial, L.draw (by omega) (by omega) fun r h3 r0 r1 L3 => ?_⟩
      obtain ⟨j, rfl⟩ := Int.eq_ofNat_of_zero_le r0
      have hj : j < T.length := by omega
      rw [v_pop, L3.get 0 rfl, v_lstK]
      refine ⟨j, .str T[j], ixN_of rfl (by rw [List.length_map]; exact hj), by rw [List.getElem?_map, List.getElem?_eq_getElem hj]; rfl, ⟨by omega, by omega⟩, ?_⟩
      have L4 := L3.set 0 rfl (.lst ((T.eraseIdx j).map D.str))
      rw [erase_map]
      rw [show up h3 ll (.lst ((T.eraseIdx j).map D.str)) fl = _ from L4.get 1 rfl]
      have L5 := L4.set 1 rfl (.lst ((S ++ [T[j]]).map D.str))
      rw [List.map_append] at L5
      have le1 : (T.eraseIdx j).length = T.length - 1 := List.length_eraseIdx_of_lt hj
      refine ⟨sl_lt (by rw [List.length_map]; omega), m - 1, by omega, Lw.of ⟨S ++ [T[j]], T.eraseIdx j, by rw [List.map_append]; exact L5, by omega, fun x hx => ?_, fun x hx => sT x (List.mem_of_mem_eraseIdx hx), by rw [List.length_append, le1]; simp; omega, fun _ => .inl (by rw [List.length_append]; simp), rfl⟩⟩
      rcases List.mem_append.mp hx with hx | hx
      · exact sS x hx
      · rw [List.mem_singleton.mp hx]; exact sT _ (List.getElem_mem hj)
    · rw [if_neg (by rw [decide_eq_true_eq]; exact c2)]
      exact fin (.inr (by omega))
  · rw [if_neg (by rw [decide_eq_true_eq]; exact c1)]
    rw [if_neg (by decide)]
    exact fin (.inl (by omega))
end DL
namespace DL
open PySem PySem.Spec PyProof.Rows L2
local macro_rules | `(tactic| walk_at "ev") => `(tactic| try simp only [e_seq, e_next, e_brk, e_cnt, e_drop, e_ret, e_retN, e_ifS, e_asg, e_gN, e_gSb, e_gTp, e_gCn, e_gNl, e_var, e_varK, e_nth0, e_nthS, e_put0, e_putS, e_c, e_op, e_un, e_call, e_nil, e_cons, e_tup, e_lst, e_test, e_asB, e_tru, e_andT, e_orT, e_notT, e_andV, e_orV, e_notV, e_if, e_aug, e_augS, e_sl, e_part, e_partK, e_noPart, e_bm0, e_bm, e_join, e_yes, e_wipe0, e_wipeS, e_lc, e_for, v_add, v_addS, v_addT, v_iadd, v_sub, v_mul, v_fdiv, v_mod, v_pow, v_shl, v_shr, v_neg, v_lt, v_le, v_gt, v_ge, v_eqI, v_neI, v_eqS, v_neS, v_inS, v_ninS, v_inT, v_ninT, v_inR, v_ninR, v_inSeq, v_seqO, v_seqR, v_seqT, v_seqL, v_ixR, v_ixT, v_ixL, v_ixS, v_atK, v_atSK, v_get, v_getL, v_getK, v_set, v_setL, v_setK, v_on1, v_on2, v_lenR, v_lenT, v_lenL, v_lenS, v_seqK, v_tuple, v_list, v_abs, v_intI, v_intB, v_okL, v_isLst, v_app, v_lstK, v_slS, v_slT, v_join, v_is, v_isnot, v_max, v_min, v_iSeq, v_srcT, v_srcL, v_srcS, v_srcR, v_srcO, v_iRg1, v_rg1, v_truN, v_truB, v_truI, v_truS, v_truR, v_truT, v_truRol, v_truL, v_inRol, v_ninRol, v_inO, v_inOd, v_inDic, v_ixO, v_ixOd, v_ixSeq, v_ixDic, v_dgetK, v_ixStr, v_getO, v_getOd, v_setO, v_setOd, v_setDic, v_lenO, v_lenOd, e_dic0, e_disp, e_pairs0, e_pairsS, e_chain, v_bits, v_iRg3, v_rg3, v_iRg2, v_rg2, v_iEn, v_enT, v_enR, v_enO, v_iZp, v_zpT, v_zpR, v_zpO, v_repr, v_strI, v_strS, v_addR, v_and, v_slR, v_slL, v_ltS, v_srtT, v_srtR, v_srtO, v_srtD, v_revR, v_revT, v_isB, v_iZs, v_zsT, e_split, v_split, v_words, v_index, v_eqIS, v_neIS, v_eqB, v_neB])
local macro_rules | `(tactic| walk_at "e0") => `(tactic| try simp only [e_seq, e_brk, e_cnt, e_drop, e_ret, e_retN, e_ifS, e_asg, e_gN, e_gSb, e_gTp, e_gCn, e_gNl, e_var, e_varK, e_nth0, e_nthS, e_put0, e_putS, e_c, e_op, e_un, e_call, e_nil, e_cons, e_tup, e_lst, e_test, e_asB, e_tru, e_andT, e_orT, e_notT, e_andV, e_orV, e_notV, e_if, e_aug, e_augS, e_sl, e_part, e_partK, e_noPart, e_bm0, e_bm, e_join, e_yes, e_wipe0, e_wipeS, e_lc, e_for, v_add, v_addS, v_addT, v_iadd, v_sub, v_mul, v_fdiv, v_mod, v_pow, v_shl, v_shr, v_neg, v_lt, v_le, v_gt, v_ge, v_eqI, v_neI, v_eqS, v_neS, v_inS, v_ninS, v_inT, v_ninT, v_inR, v_ninR, v_inSeq, v_seqO, v_seqR, v_seqT, v_seqL, v_ixR, v_ixT, v_ixL, v_ixS, v_atK, v_atSK, v_get, v_getL, v_getK, v_set, v_setL, v_setK, v_on1, v_on2, v_lenR, v_lenT, v_lenL, v_lenS, v_seqK, v_tuple, v_list, v_abs, v_intI, v_intB, v_okL, v_isLst, v_app, v_lstK, v_slS, v_slT, v_join, v_is, v_isnot, v_max, v_min, v_iSeq, v_srcT, v_srcL, v_srcS, v_srcR, v_srcO, v_iRg1, v_rg1, v_truN, v_truB, v_truI, v_truS, v_truR, v_truT, v_truRol, v_truL, v_inRol, v_ninRol, v_inO, v_inOd, v_inDic, v_ixO, v_ixOd, v_ixSeq, v_ixDic, v_dgetK, v_ixStr, v_getO, v_getOd, v_setO, v_setOd, v_setDic, v_lenO, v_lenOd, e_dic0, e_disp, e_pairs0, e_pairsS, e_chain, v_bits, v_iRg3, v_rg3, v_iRg2, v_rg2, v_iEn, v_enT, v_enR, v_enO, v_iZp, v_zpT, v_zpR, v_zpO, v_repr, v_strI, v_strS, v_addR, v_and, v_slR, v_slL, v_ltS, v_srtT, v_srtR, v_srtO, v_srtD, v_revR, v_revT, v_isB, v_iZs, v_zsT, v_eqIS, v_neIS, v_eqB, v_neB])
theorem eb_eq {r : Int} {Q : KD} {h : MH} : eqD (.int r) (.int 0) h Q = Q (.bool (decide (r = 0))) h := v_eqI
/-! names of nodes -/
def nnS (i : Nat) : Str := Str.ofString "nn" ++ Str.ofString (toString ((i : Nat) : Int))
theorem nn_all : ∀ i, i < 100 → GN (nnS i) ∧ (Str.ofString "nn").length + (Str.ofString (toString ((i : Nat) : Int))).length ≤ 20 ∧ ((i : Nat) : Int).natAbs.log2 < 1920 := by
  have e : ∀ i : Fin 100, (PyData.strOk (nnS i.1) = true ∧ (nnS i.1).length ≤ 20) ∧ (Str.ofString "nn").length + (Str.ofString (toString ((i.1 : Nat) : Int))).length ≤ 20 ∧ ((i.1 : Nat) : Int).natAbs.log2 < 1920 := by decide +kernel
  exact fun i hi => e ⟨i, hi⟩
def sp__law_node_names : P1 := fun ds h Q => ∃ (a c : Addr) (cs : List Int) (pl : Addr) (P : List Str) (n : Nat), ds = [.ref a, .ref pl, .int (n : Nat)] ∧ Dr a c cs h ∧ pl ≠ a ∧ pl ≠ c ∧ h pl = some (.lst (P.map D.str)) ∧ P.length ≤ 1000 ∧ n ≤ 90 ∧ (∀ x ∈ P, GN x) ∧
  ∀ (N P' : List Str) (o : MO) (p : Addr), N.length = n → (∀ x ∈ N, GN x) → (∀ x ∈ P', x ∈ P) → P'.length ≤ P.length → DrO c o → h p = none → Q (.ref p) (up (up (up h pl (.lst (P'.map D.str))) a o) p (.lst (N.map D.str)))
theorem len__law_node_names : ∀ ds h Q, sp__law_node_names ds h Q → ds.length = 3 := fun ds h Q ⟨_, _, _, _, _, _, e, _⟩ => by rw [e]; rfl
theorem sat__law_node_names : ∀ ds h Q, sp__law_node_names ds h Q → rd__law_node_names sp__law_pop (endN Q) (startD 5 ds) h := by
  rintro ds h Q ⟨a, c, cs, pl, P, n, rfl, d, pa, pc, ep, hP, hn, gP, q⟩
  have L0 := (LV.start d).cast (up_id ep).symm rfl
  show rd__law_node_names sp__law_pop (endN Q) [some (.ref a), some (.ref pl), some (.int (n : Nat)), none, none] h
  unfold rd__law_node_names
  walk_at "e0"
  refine ⟨by decide, ?_⟩
  intro fl nfl
  generalize efl : up _ fl _ = h1
  have L1 := L0.newE nfl efl
  unfold rd__law_node_names_1
  walk_at "e0"
  refine ⟨bnd62 (by omega), ?_⟩
  refine ⟨fun i σ hh => ∃ (N P' : List Str) (x4 : Option D), LV (up h pl (.lst (P'.map D.str))) a c cs hh [(fl, .lst (N.map D.str))] ∧ N.length = i ∧ (∀ x ∈ N, GN x) ∧ (∀ x ∈ P', x ∈ P) ∧ P'.length ≤ P.length ∧ σ = [some (.ref a), some (.ref pl), some (.int (n : Nat)), some (.ref fl), x4], Lw.of ⟨[], P, _, L1, rfl, by simp, fun _ h => h, Nat.le_refl _, rfl⟩, fun _ _ _ _ => trivial, ?_, ?_⟩
  · rintro i x σ hh hx ⟨N, P', x4, L, hN, gN', sP, lP, rfl⟩
    obtain ⟨hi, rfl⟩ := rg_at hx
    walk_at "e0"
    unfold rd__law_node_names_b1
    walk_at "e0"
    rw [L.old up_same pa]
    walk_at "e0"
    rw [List.length_map, L.get 0 rfl]
    walk_at "e0"
    split
    · rename_i z
      have z := of_decide_eq_true z
      refine ⟨trivial, L.popB pa pc (by omega) (by omega) fun j x h2 hx L2 => ?_⟩
      rw [L2.get 0 rfl]
      walk_at "e0"
      have L3 := L2.set 0 rfl (.lst ((N ++ [x]).map D.str))
      rw [List.map_append] at L3
      have hj := (List.getElem?_eq_some_iff.mp hx).1
      refine ⟨sl_lt (by rw [List.length_map]; omega), Lw.of ⟨N ++ [x], P'.eraseIdx j, _, by rw [List.map_append]; exact L3, by rw [List.length_append, hN]; rfl, fun y hy => ?_, fun y hy => sP y (List.mem_of_mem_eraseIdx hy), by rw [List.length_eraseIdx_of_lt hj]; omega, rfl⟩⟩
      rcases List.mem_append.mp hy with hy | hy
      · exact gN' y hy
      · rw [List.mem_singleton.mp hy]; exact gP _ (sP _ (List.mem_of_getElem? hx))
    · obtain ⟨g1, g2, g3⟩ := nn_all i (by omega)
      refine ⟨trivial, g3, Nat.le_of_lt (sl_lt (by omega)), ?_⟩
      have L3 := L.set 0 rfl (.lst ((N ++ [nnS i]).map D.str))
      rw [List.map_append] at L3
      refine ⟨sl_lt (by rw [List.length_map]; omega), Lw.of ⟨N ++ [nnS i], P', _, by rw [List.map_append]; exact L3, by rw [List.length_append, hN]; rfl, fun y hy => ?_, sP, lP, rfl⟩⟩
      rcases List.mem_append.mp hy with hy | hy
      · exact gN' y hy
      · rw [List.mem_singleton.mp hy]; exact g1
  · rintro σ hh ⟨N, P', x4, L, hN, gN', sP, lP, rfl⟩
    rw [rg_len] at hN
    unfold rd__law_node_names_2
    walk_at "e0"
    refine L.retN (p := fl) (x := .lst (N.map D.str)) (by simp) fun o k n0 => q N P' o fl hN gN' sP lP k ?_
    rw [up_ne (fun z => by rw [z, up_same] at n0; cases n0)] at n0
    exact n0
/-! tests of a never -/
def sp__law_plan_tests : P1 := fun ds h Q => ∃ (a c : Addr) (cs : List Int) (ml : Addr) (M : List Str), ds = [.ref a, .ref ml] ∧ Dr a c cs h ∧ ml ≠ a ∧ h ml = some (.lst (M.map D.str)) ∧ M.length ≤ 100 ∧
  ∀ (T : List (Str × Bool)) (o : MO), (∀ t ∈ T, t.1 ∈ M) → T.length ≤ M.length → DrO c o → Q (testsD T) (up h a o)
theorem len__law_plan_tests : ∀ ds h Q, sp__law_plan_tests ds h Q → ds.length = 2 := fun ds h Q ⟨_, _, _, _, _, e, _⟩ => by rw [e]; rfl
theorem sat__law_plan_tests : ∀ ds h Q, sp__law_plan_tests ds h Q → rd__law_plan_tests sp__law_shuffled sp__law_draw (endN Q) (startD 4 ds) h := by
  rintro ds h Q ⟨a, c, cs, ml, M, rfl, d, ma, em, hM, q⟩
  have L0 := LV.start d
  show rd__law_plan_tests sp__law_shuffled sp__law_draw (endN Q) [some (.ref a), some (.ref ml), none, none] h
  unfold rd__law_plan_tests
  walk_at "e0"
  refine ⟨by decide, ?_⟩
  intro fl nfl
  generalize efl : up _ fl _ = h1
  have fa := L0.ne nfl
  have L1 := L0.newE nfl efl
  unfold rd__law_plan_tests_1
  walk_at "e0"
  refine L1.shufT D.str (L1.old em ma) ma (by omega) fun sl S h2 sa hS sS L2 => ?_
  walk_at "e0"
  rw [L2.get 0 rfl]
  walk_at "e0"
  refine ⟨fun i σ hh => ∃ (T : List (Str × Bool)) (x3 : Option D), LV h a c cs hh [(sl, .lst (S.map D.str)), (fl, .lst (T.map testD))] ∧ T.length ≤ i ∧ (∀ t ∈ T, t.1 ∈ M) ∧ σ = [some (.ref a), some (.ref ml), some (.ref fl), x3], Lw.of ⟨[], _, L2, Nat.le_refl _, by simp, rfl⟩, fun i σ hh ⟨_, _, L, _⟩ => L.get 0 rfl, ?_, ?_⟩
  · rintro i x σ hh hx ⟨T, x3, L, hT, gT, rfl⟩
    rw [List.getElem?_map] at hx
    obtain ⟨t, ht, rfl⟩ := Option.map_eq_some_iff.mp hx
    have hi := (List.getElem?_eq_some_iff.mp ht).1
    walk_at "e0"
    unfold rd__law_plan_tests_b1
    walk_at "e0"
    refine L.draw (by decide) (by decide) fun r h3 r0 r1 L3 => ?_
    walk_at "e0"
    split
    · rw [L3.get 1 rfl]
      walk_at "e0"
      refine ⟨trivial, L3.draw (by decide) (by decide) fun r' h4 r0' r1' L4 => ?_⟩
      walk_at "e0"
      refine ⟨by show 2 ≤ sizeLine; decide, ?_⟩
      rw [L4.get 1 rfl]
      walk_at "e0"
      have L5 := L4.set 1 rfl (.lst ((T ++ [(t, decide (r' = 0))]).map testD))
      rw [List.map_append] at L5
      refine ⟨sl_lt (by rw [List.length_map]; omega), Lw.of ⟨T ++ [(t, decide (r' = 0))], _, by rw [List.map_append]; exact L5, by rw [List.length_append]; simp; omega, fun y hy => ?_, rfl⟩⟩
      rcases List.mem_append.mp hy with hy | hy
      · exact gT y hy
      · rw [List.mem_singleton.mp hy]; exact sS _ (List.mem_of_getElem? ht)
    · rw [e_next]
      exact Lw.of ⟨T, _, L3, by omega, gT, rfl⟩
  · rintro σ hh ⟨T, x3, L, hT, gT, rfl⟩
    rw [List.length_map] at hT
    unfold rd__law_plan_tests_2
    walk_at "e0"
    rw [L.get 1 rfl]
    walk_at "e0"
    exact L.ret fun o k => q T o gT (by omega) k
end DL
namespace DL
open PySem PySem.Spec PyProof.Rows L2
local macro_rules | `(tactic| walk_at "ev") => `(tactic| try simp only [e_seq, e_next, e_brk, e_cnt, e_drop, e_ret, e_retN, e_ifS, e_asg, e_gN, e_gSb, e_gTp, e_gCn, e_gNl, e_var, e_varK, e_nth0, e_nthS, e_put0, e_putS, e_c, e_op, e_un, e_call, e_nil, e_cons, e_tup, e_lst, e_test, e_asB, e_tru, e_andT, e_orT, e_notT, e_andV, e_orV, e_notV, e_if, e_aug, e_augS, e_sl, e_part, e_partK, e_noPart, e_bm0, e_bm, e_join, e_yes, e_wipe0, e_wipeS, e_lc, e_for, v_add, v_addS, v_addT, v_iadd, v_sub, v_mul, v_fdiv, v_mod, v_pow, v_shl, v_shr, v_neg, v_lt, v_le, v_gt, v_ge, v_eqI, v_neI, v_eqS, v_neS, v_inS, v_ninS, v_inT, v_ninT, v_inR, v_ninR, v_inSeq, v_seqO, v_seqR, v_seqT, v_seqL, v_ixR, v_ixT, v_ixL, v_ixS, v_atK, v_atSK, v_get, v_getL, v_getK, v_set, v_setL, v_setK, v_on1, v_on2, v_lenR, v_lenT, v_lenL, v_lenS, v_seqK, v_tuple, v_list, v_abs, v_intI, v_intB, v_okL, v_isLst, v_app, v_lstK, v_slS, v_slT, v_join, v_is, v_isnot, v_max, v_min, v_iSeq, v_srcT, v_srcL, v_srcS, v_srcR, v_srcO, v_iRg1, v_rg1, v_truN, v_truB, v_truI, v_truS, v_truR, v_truT, v_truRol, v_truL, v_inRol, v_ninRol, v_inO, v_inOd, v_inDic, v_ixO, v_ixOd, v_ixSeq, v_ixDic, v_dgetK, v_ixStr, v_getO, v_getOd, v_setO, v_setOd, v_setDic, v_lenO, v_lenOd, e_dic0, e_disp, e_pairs0, e_pairsS, e_chain, v_bits, v_iRg3, v_rg3, v_iRg2, v_rg2, v_iEn, v_enT, v_enR, v_enO, v_iZp, v_zpT, v_zpR, v_zpO, v_repr, v_strI, v_strS, v_addR, v_and, v_slR, v_slL, v_ltS, v_srtT, v_srtR, v_srtO, v_srtD, v_revR, v_revT, v_isB, v_iZs, v_zsT, e_split, v_split, v_words, v_index, v_eqIS, v_neIS, v_eqB, v_neB])
local macro_rules | `(tactic| walk_at "e0") => `(tactic| try simp only [e_seq, e_brk, e_cnt, e_drop, e_ret, e_retN, e_ifS, e_asg, e_gN, e_gSb, e_gTp, e_gCn, e_gNl, e_var, e_varK, e_nth0, e_nthS, e_put0, e_putS, e_c, e_op, e_un, e_call, e_nil, e_cons, e_tup, e_lst, e_test, e_asB, e_tru, e_andT, e_orT, e_notT, e_andV, e_orV, e_notV, e_if, e_aug, e_augS, e_sl, e_part, e_partK, e_noPart, e_bm0, e_bm, e_join, e_yes, e_wipe0, e_wipeS, e_lc, e_for, v_add, v_addS, v_addT, v_iadd, v_sub, v_mul, v_fdiv, v_mod, v_pow, v_shl, v_shr, v_neg, v_lt, v_le, v_gt, v_ge, v_eqI, v_neI, v_eqS, v_neS, v_inS, v_ninS, v_inT, v_ninT, v_inR, v_ninR, v_inSeq, v_seqO, v_seqR, v_seqT, v_seqL, v_ixR, v_ixT, v_ixL, v_ixS, v_atK, v_atSK, v_get, v_getL, v_getK, v_set, v_setL, v_setK, v_on1, v_on2, v_lenR, v_lenT, v_lenL, v_lenS, v_seqK, v_tuple, v_list, v_abs, v_intI, v_intB, v_okL, v_isLst, v_app, v_lstK, v_slS, v_slT, v_join, v_is, v_isnot, v_max, v_min, v_iSeq, v_srcT, v_srcL, v_srcS, v_srcR, v_srcO, v_iRg1, v_rg1, v_truN, v_truB, v_truI, v_truS, v_truR, v_truT, v_truRol, v_truL, v_inRol, v_ninRol, v_inO, v_inOd, v_inDic, v_ixO, v_ixOd, v_ixSeq, v_ixDic, v_dgetK, v_ixStr, v_getO, v_getOd, v_setO, v_setOd, v_setDic, v_lenO, v_lenOd, e_dic0, e_disp, e_pairs0, e_pairsS, e_chain, v_bits, v_iRg3, v_rg3, v_iRg2, v_rg2, v_iEn, v_enT, v_enR, v_enO, v_iZp, v_zpT, v_zpR, v_zpO, v_repr, v_strI, v_strS, v_addR, v_and, v_slR, v_slL, v_ltS, v_srtT, v_srtR, v_srtO, v_srtD, v_revR, v_revT, v_isB, v_iZs, v_zsT, v_eqIS, v_neIS, v_eqB, v_neB])
theorem FAt.lvB {h hh : MH} {a c p pl : Addr} {cs : List Int} {ws : List (Addr × MO)} {F : Str → Option (List D)} {X : Addr → Prop} {x : MO} (P : FAt h p F X) (L : LV (up h pl x) a c cs hh ws) (xa : X a) (xp : X pl) : FAt hh p F X :=
  P.to (fun b u e n => L.old (by rw [up_ne (fun z => n (by rw [z]; exact xp))]; exact e) fun z => n (by rw [z]; exact xa)) (fun _ z => z) fun _ _ e => e
structure TieOk (A G Th Bd : List Str) (t : Str × List Str × List Str) : Prop where
  n : GN t.1
  f : ∀ x ∈ t.2.1, x ∈ A ++ G
  e : ∀ x ∈ t.2.2, x ∈ (G ++ Th) ++ Bd
  lf : t.2.1.length ≤ 200
  le : t.2.2.length ≤ 200
def sp__law_plan_ties : P1 := fun ds h Q => ∃ (a c : Addr) (cs : List Int) (p : Addr) (F : Str → Option (List D)) (X : Addr → Prop) (pl : Addr) (P A G Th Bd : List Str) (rich : Nat),
  ds = [.ref a, .ref p, .ref pl, .int (rich : Nat)] ∧ Dr a c cs h ∧ pl ≠ a ∧ pl ≠ c ∧ h pl = some (.lst (P.map D.str)) ∧ FAt h p F X ∧ X a ∧ X pl ∧
  F (Str.ofString "asker") = some (sD A) ∧ F (Str.ofString "group") = some (sD G) ∧ F (Str.ofString "thing") = some (sD Th) ∧ F (Str.ofString "badge") = some (sD Bd) ∧
  A.length ≤ 50 ∧ G.length ≤ 50 ∧ Th.length ≤ 50 ∧ Bd.length ≤ 50 ∧ rich ≤ 5 ∧ rich + 3 ≤ P.length ∧ P.length ≤ 1000 ∧ (∀ x ∈ P, GN x) ∧
  ∀ (T : List (Str × List Str × List Str)) (P' : List Str) (o : MO) (q : Addr), 2 ≤ T.length → T.length ≤ 2 + rich → (∀ t ∈ T, TieOk A G Th Bd t) → (∀ x ∈ P', x ∈ P) → P.length ≤ P'.length + (2 + rich) → P'.length ≤ P.length → DrO c o → h q = none →
    Q (.ref q) (up (up (up h pl (.lst (P'.map D.str))) a o) q (.lst (T.map tieD)))
theorem len__law_plan_ties : ∀ ds h Q, sp__law_plan_ties ds h Q → ds.length = 4 := fun ds h Q ⟨_, _, _, _, _, _, _, _, _, _, _, _, _, e, _⟩ => by rw [e]; rfl
theorem sat__law_plan_ties : ∀ ds h Q, sp__law_plan_ties ds h Q → rd__law_plan_ties sp__law_pop sp__law_draw sp__law_some sp__law_shuffled (endN Q) (startD 9 ds) h := by
  rintro ds h Q ⟨a, c, cs, p, F, X, pl, P, A, G, Th, Bd, rich, rfl, d, pa, pc, ep, FA, xa, xp, fa, fg, ft, fb, lA, lG, lT, lB, hr, hP, hP2, gP, q⟩
  have L0 := (LV.start d).cast (up_id ep).symm rfl
  show rd__law_plan_ties sp__law_pop sp__law_draw sp__law_some sp__law_shuffled (endN Q) [some (.ref a), some (.ref p), some (.ref pl), some (.int (rich : Nat)), none, none, none, none, none] h
  unfold rd__law_plan_ties
  walk_at "e0"
  refine FA.ix fa fun la ela _ => ?_
  refine FA.ix fg fun lg elg _ => ?_
  refine ⟨_, _, ela, elg, by unfold sD; rw [List.length_map, List.length_map]; exact Nat.le_of_lt (sl_lt (by omega)), ?_⟩
  intro el nel
  generalize eel : up _ el _ = h1
  have ea := L0.ne nel
  have L1 := L0.newE nel eel
  have eE : sD A ++ sD G = (A ++ G).map D.str := by unfold sD; rw [List.map_append]
  rw [eE] at L1
  unfold rd__law_plan_ties_1
  walk_at "e0"
  refine L1.popB pa pc (by omega) (by omega) fun j1 x1 h2 hx1 L2 => ?_
  rw [L2.get 0 rfl]
  walk_at "e0"
  refine (FA.lvB L2 xa xp).ix fg fun lg2 elg2 _ => ?_
  rw [v_seqR, elg2]
  walk_at "e0"
  refine ⟨by show 3 ≤ sizeLine; decide, by show 1 ≤ sizeLine; decide, ?_⟩
  intro rl nrl
  generalize erl : up _ rl _ = h3
  have ra := L2.ne nrl
  have L3 := L2.newE nrl erl
  unfold rd__law_plan_ties_2
  walk_at "e0"
  rw [L3.get 0 rfl]
  have j1l := (List.getElem?_eq_some_iff.mp hx1).1
  have lP1 : (P.eraseIdx j1).length = P.length - 1 := List.length_eraseIdx_of_lt j1l
  refine ⟨trivial, L3.popB pa pc (by omega) (by omega) fun j2 x2 h4 hx2 L4 => ?_⟩
  rw [L4.get 1 rfl]
  walk_at "e0"
  refine (FA.lvB L4 xa xp).ix ft fun lt elt _ => ?_
  refine (FA.lvB L4 xa xp).ix fb fun lb elb _ => ?_
  refine ⟨_, _, elt, elb, by unfold sD; rw [List.length_map, List.length_map]; exact Nat.le_of_lt (sl_lt (by omega)), ?_⟩
  intro tb ntb
  generalize etb : up _ tb _ = h5
  have L5 := L4.newE ntb etb
  have eT : sD Th ++ sD Bd = (Th ++ Bd).map D.str := by unfold sD; rw [List.map_append]
  rw [eT] at L5
  rw [v_seqR, L5.get 0 rfl]
  walk_at "e0"
  refine ⟨by show 3 ≤ sizeLine; decide, ?_⟩
  rw [L5.get 1 rfl]
  walk_at "e0"
  have j2l := (List.getElem?_eq_some_iff.mp hx2).1
  have lP2 : ((P.eraseIdx j1).eraseIdx j2).length = P.length - 2 := by rw [List.length_eraseIdx_of_lt j2l]; omega
  have mP2 : ∀ x ∈ (P.eraseIdx j1).eraseIdx j2, x ∈ P := fun x hx => List.mem_of_mem_eraseIdx (List.mem_of_mem_eraseIdx hx)
  have ok1 : TieOk A G Th Bd (x1, A ++ G, G) := ⟨gP _ (List.mem_of_getElem? hx1), fun x hx => hx, fun x hx => List.mem_append_left _ (List.mem_append_left _ hx), by rw [List.length_append]; omega, show G.length ≤ 200 by omega⟩
  have ok2 : TieOk A G Th Bd (x2, A ++ G, Th ++ Bd) := ⟨gP _ (List.mem_of_mem_eraseIdx (List.mem_of_getElem? hx2)), fun x hx => hx, fun x hx => by rw [List.append_assoc]; exact List.mem_append_right _ hx, by rw [List.length_append]; omega, by rw [List.length_append]; omega⟩
  have L6 := (L5.set 1 rfl (.lst ([(x1, A ++ G, G), (x2, A ++ G, Th ++ Bd)].map tieD))).tl
  refine ⟨sl_lt (by simp), ?_⟩
  show rd__law_plan_ties_3 sp__law_pop sp__law_draw sp__law_some sp__law_shuffled (endN Q) [some (.ref a), some (.ref p), some (.ref pl), some (.int (rich : Nat)), some (.ref el), some (.ref rl), none, none, none] (up h5 rl (.lst ([(x1, A ++ G, G), (x2, A ++ G, Th ++ Bd)].map tieD)))
  generalize up h5 rl (.lst ([(x1, A ++ G, G), (x2, A ++ G, Th ++ Bd)].map tieD)) = h6 at L6
  generalize (P.eraseIdx j1).eraseIdx j2 = P2 at L6 lP2 mP2
  unfold rd__law_plan_ties_3
  walk_at "e0"
  have e1r : (1 : Int) + (rich : Int) = ((1 + rich : Nat) : Int) := by omega
  rw [e1r]
  refine L6.draw (by omega) (by omega) fun r h7 r0 r1 L7 => ?_
  obtain ⟨m, rfl⟩ := Int.eq_ofNat_of_zero_le r0
  walk_at "e0"
  refine ⟨bnd62 (by omega), ?_⟩
  refine ⟨fun i σ hh => ∃ (T : List (Str × List Str × List Str)) (P' : List Str) (x6 x7 x8 : Option D), LV (up h pl (.lst (P'.map D.str))) a c cs hh [(rl, .lst (T.map tieD)), (el, .lst ((A ++ G).map D.str))] ∧ T.length = 2 + i ∧ (∀ t ∈ T, TieOk A G Th Bd t) ∧ (∀ x ∈ P', x ∈ P) ∧ P'.length + (2 + i) = P.length ∧ σ = [some (.ref a), some (.ref p), some (.ref pl), some (.int (rich : Nat)), some (.ref el), some (.ref rl), x6, x7, x8], Lw.of ⟨_, P2, _, _, _, L7, rfl, fun t ht => ?_, mP2, by omega, rfl⟩, fun _ _ _ _ => trivial, ?_, ?_⟩
  · rcases List.mem_cons.mp ht with rfl | ht
    · exact ok1
    · rw [List.mem_singleton.mp ht]; exact ok2
  · rintro i x σ hh hx ⟨T, P', x6, x7, x8, L, hT, oT, mP, lP', rfl⟩
    obtain ⟨hi, rfl⟩ := rg_at hx
    walk_at "e0"
    unfold rd__law_plan_ties_b1
    walk_at "e0"
    refine ⟨a, c, cs, A ++ G, el, 1, rfl, L.dr, ea, L.get 1 rfl, by rw [List.length_append]; omega, by omega, fun S1 o1 s1 k1 m1 z1 _ ns1 => ?_⟩
    have s1a := L.ne ns1
    have La := (L.drawn k1).new (p := s1) (by rw [up_ne s1a]; exact ns1) (.lst (S1.map D.str))
    generalize up (up hh a o1) s1 (.lst (S1.map D.str)) = g1 at La
    unfold rd__law_plan_ties_b1_1
    walk_at "e0"
    refine (FA.lvB La xa xp).ix fg fun lg elg _ => ?_
    refine (FA.lvB La xa xp).ix ft fun lt elt _ => ?_
    refine ⟨_, _, elg, elt, by unfold sD; rw [List.length_map, List.length_map]; exact Nat.le_of_lt (sl_lt (by omega)), ?_⟩
    intro q1 nq1
    generalize eq1 : up _ q1 _ = g2
    have Lb := La.newE nq1 eq1
    refine (FA.lvB Lb xa xp).ix fb fun lb elb _ => ?_
    refine ⟨_, _, Lb.get 0 rfl, elb, by unfold sD; rw [List.length_append, List.length_map, List.length_map, List.length_map]; exact Nat.le_of_lt (sl_lt (by omega)), ?_⟩
    intro q2 nq2
    generalize eq2 : up _ q2 _ = g3
    have q2a := Lb.ne nq2
    have Lc := Lb.newE nq2 eq2
    have eG : (sD G ++ sD Th) ++ sD Bd = ((G ++ Th) ++ Bd).map D.str := by unfold sD; rw [List.map_append, List.map_append]
    rw [eG] at Lc
    refine ⟨a, c, cs, (G ++ Th) ++ Bd, q2, 1, rfl, Lc.dr, q2a, Lc.get 0 rfl, by rw [List.length_append, List.length_append]; omega, by omega, fun S2 o2 s2 k2 m2 z2 _ ns2 => ?_⟩
    have s2a := Lc.ne ns2
    have Ld := (Lc.drawn k2).new (p := s2) (by rw [up_ne s2a]; exact ns2) (.lst (S2.map D.str))
    generalize up (up g3 a o2) s2 (.lst (S2.map D.str)) = g4 at Ld
    unfold rd__law_plan_ties_b1_2
    walk_at "e0"
    rw [Ld.get 4 rfl]
    refine ⟨trivial, Ld.popB pa pc (by omega) (by omega) fun j3 x3 g5 hx3 Le => ?_⟩
    rw [Le.get 3 rfl]
    walk_at "e0"
    rw [Le.get 0 rfl]
    walk_at "e0"
    refine ⟨by show 3 ≤ sizeLine; decide, ?_⟩
    rw [Le.get 4 rfl]
    walk_at "e0"
    have Lf := Le.tl.tl.tl.tl.set 0 rfl (.lst ((T ++ [(x3, S1, S2)]).map tieD))
    rw [List.map_append] at Lf
    have j3l := (List.getElem?_eq_some_iff.mp hx3).1
    refine ⟨sl_lt (by rw [List.length_map]; omega), Lw.of ⟨T ++ [(x3, S1, S2)], P'.eraseIdx j3, _, _, _, by rw [List.map_append]; exact Lf, by rw [List.length_append, hT]; rfl, fun t ht => ?_, fun y hy => mP y (List.mem_of_mem_eraseIdx hy), by rw [List.length_eraseIdx_of_lt j3l]; omega, rfl⟩⟩
    rcases List.mem_append.mp ht with ht | ht
    · exact oT t ht
    · rw [List.mem_singleton.mp ht]
      rw [List.length_append] at z1
      rw [List.length_append, List.length_append] at z2
      exact ⟨gP _ (mP _ (List.mem_of_getElem? hx3)), m1, m2, by show S1.length ≤ 200; omega, by show S2.length ≤ 200; omega⟩
  · rintro σ hh ⟨T, P', x6, x7, x8, L, hT, oT, mP, lP', rfl⟩
    rw [rg_len] at hT lP'
    unfold rd__law_plan_ties_4
    walk_at "e0"
    refine L.shufT tieD (L.get 0 rfl) ra (by omega) fun sl S h8 sa hS sS L8 => ?_
    refine L8.retN (p := sl) (x := .lst (S.map tieD)) (by simp) fun o k n0 => q S P' o sl (by omega) (by omega) (fun t ht => oT t (sS t ht)) mP (by omega) (by omega) k ?_
    rw [up_ne (fun z => by rw [z, up_same] at n0; cases n0)] at n0
    exact n0
end DL
namespace DL
open PySem PySem.Spec PyProof.Rows L2
local macro_rules | `(tactic| walk_at "ev") => `(tactic| try simp only [e_seq, e_next, e_brk, e_cnt, e_drop, e_ret, e_retN, e_ifS, e_asg, e_gN, e_gSb, e_gTp, e_gCn, e_gNl, e_var, e_varK, e_nth0, e_nthS, e_put0, e_putS, e_c, e_op, e_un, e_call, e_nil, e_cons, e_tup, e_lst, e_test, e_asB, e_tru, e_andT, e_orT, e_notT, e_andV, e_orV, e_notV, e_if, e_aug, e_augS, e_sl, e_part, e_partK, e_noPart, e_bm0, e_bm, e_join, e_yes, e_wipe0, e_wipeS, e_lc, e_for, v_add, v_addS, v_addT, v_iadd, v_sub, v_mul, v_fdiv, v_mod, v_pow, v_shl, v_shr, v_neg, v_lt, v_le, v_gt, v_ge, v_eqI, v_neI, v_eqS, v_neS, v_inS, v_ninS, v_inT, v_ninT, v_inR, v_ninR, v_inSeq, v_seqO, v_seqR, v_seqT, v_seqL, v_ixR, v_ixT, v_ixL, v_ixS, v_atK, v_atSK, v_get, v_getL, v_getK, v_set, v_setL, v_setK, v_on1, v_on2, v_lenR, v_lenT, v_lenL, v_lenS, v_seqK, v_tuple, v_list, v_abs, v_intI, v_intB, v_okL, v_isLst, v_app, v_lstK, v_slS, v_slT, v_join, v_is, v_isnot, v_max, v_min, v_iSeq, v_srcT, v_srcL, v_srcS, v_srcR, v_srcO, v_iRg1, v_rg1, v_truN, v_truB, v_truI, v_truS, v_truR, v_truT, v_truRol, v_truL, v_inRol, v_ninRol, v_inO, v_inOd, v_inDic, v_ixO, v_ixOd, v_ixSeq, v_ixDic, v_dgetK, v_ixStr, v_getO, v_getOd, v_setO, v_setOd, v_setDic, v_lenO, v_lenOd, e_dic0, e_disp, e_pairs0, e_pairsS, e_chain, v_bits, v_iRg3, v_rg3, v_iRg2, v_rg2, v_iEn, v_enT, v_enR, v_enO, v_iZp, v_zpT, v_zpR, v_zpO, v_repr, v_strI, v_strS, v_addR, v_and, v_slR, v_slL, v_ltS, v_srtT, v_srtR, v_srtO, v_srtD, v_revR, v_eqIS, v_neIS, v_eqB, v_neB])
local macro_rules | `(tactic| walk_at "e0") => `(tactic| try simp only [e_seq, e_brk, e_cnt, e_drop, e_ret, e_retN, e_ifS, e_asg, e_gN, e_gSb, e_gTp, e_gCn, e_gNl, e_var, e_varK, e_nth0, e_nthS, e_put0, e_putS, e_c, e_op, e_un, e_call, e_nil, e_cons, e_tup, e_lst, e_test, e_asB, e_tru, e_andT, e_orT, e_notT, e_andV, e_orV, e_notV, e_if, e_aug, e_augS, e_sl, e_part, e_partK, e_noPart, e_bm0, e_bm, e_join, e_yes, e_wipe0, e_wipeS, e_lc, e_for, v_add, v_addS, v_addT, v_iadd, v_sub, v_mul, v_fdiv, v_mod, v_pow, v_shl, v_shr, v_neg, v_lt, v_le, v_gt, v_ge, v_eqI, v_neI, v_eqS, v_neS, v_inS, v_ninS, v_inT, v_ninT, v_inR, v_ninR, v_inSeq, v_seqO, v_seqR, v_seqT, v_seqL, v_ixR, v_ixT, v_ixL, v_ixS, v_atK, v_atSK, v_get, v_getL, v_getK, v_set, v_setL, v_setK, v_on1, v_on2, v_lenR, v_lenT, v_lenL, v_lenS, v_seqK, v_tuple, v_list, v_abs, v_intI, v_intB, v_okL, v_isLst, v_app, v_lstK, v_slS, v_slT, v_join, v_is, v_isnot, v_max, v_min, v_iSeq, v_srcT, v_srcL, v_srcS, v_srcR, v_srcO, v_iRg1, v_rg1, v_truN, v_truB, v_truI, v_truS, v_truR, v_truT, v_truRol, v_truL, v_inRol, v_ninRol, v_inO, v_inOd, v_inDic, v_ixO, v_ixOd, v_ixSeq, v_ixDic, v_dgetK, v_ixStr, v_getO, v_getOd, v_setO, v_setOd, v_setDic, v_lenO, v_lenOd, e_dic0, e_disp, e_pairs0, e_pairsS, e_chain, v_bits, v_iRg3, v_rg3, v_iRg2, v_rg2, v_iEn, v_enT, v_enR, v_enO, v_iZp, v_zpT, v_zpR, v_zpO, v_repr, v_strI, v_strS, v_addR, v_and, v_slR, v_slL, v_ltS, v_srtT, v_srtR, v_srtO, v_srtD, v_revR, v_revT, v_isB, v_iZs, v_zsT, v_eqIS, v_neIS, v_eqB, v_neB])
/-- n names from the caller's row -/
theorem lcT_pops {h hh : MH} {a c pl : Addr} {cs : List Int} {ws : List (Addr × MO)} {P : List Str} {n : Nat} {g : G1} {te : E1} {vs : List Nat} {σ : Sl} {Q : KD} (L : LV (up h pl (.lst (P.map D.str))) a c cs hh ws) (pa : pl ≠ a) (pc : pl ≠ c) (hn : n ≤ P.length) (hP : P.length ≤ 1000)
    (hte : ∀ (x : D) (h1 : MH) (Q' : KD), sp__law_pop [.ref a, .ref pl] h1 Q' → g x (wipeD σ vs) h1 fun σ2 h2 => te σ2 h2 Q')
    (fin : ∀ (N P' : List Str) (p : Addr) (h1 : MH), N.length = n → (∀ x ∈ N, x ∈ P) → (∀ x ∈ P', x ∈ P) → P'.length + n = P.length → (P.Nodup → P'.Nodup ∧ ∀ x ∈ N, x ∉ P') → p ≠ a → LV (up h pl (.lst (P'.map D.str))) a c cs h1 ((p, .lst (N.map D.str)) :: ws) → Q (.ref p) h1) :
    lcT (rgD 0 ((n : Nat) : Int).toNat) (fun _ => True) g dYes te vs σ Q hh := by
  refine ⟨by rw [rg_len]; exact Nat.le_of_lt (sl_lt (by omega)), fun i acc h1 => ∃ N P' : List Str, LV (up h pl (.lst (P'.map D.str))) a c cs h1 ws ∧ acc = N.map D.str ∧ N.length = i ∧ (∀ x ∈ N, x ∈ P) ∧ (∀ x ∈ P', x ∈ P) ∧ P'.length + i = P.length ∧ (P.Nodup → P'.Nodup ∧ ∀ x ∈ N, x ∉ P'), ⟨hh, le.refl, [], P, L, rfl, rfl, by simp, fun _ z => z, by omega, fun z => ⟨z, by simp⟩⟩, fun _ _ _ _ => trivial, ?_, ?_⟩
  · rintro i x acc h1 hx ⟨N, P', L1, rfl, hN, mN, mP, lP, nd⟩
    obtain ⟨hi, rfl⟩ := rg_at hx
    refine hte _ h1 (fun y h4 => ∃ h5, le h5 h4 ∧ ∃ N' P'' : List Str, LV (up h pl (.lst (P''.map D.str))) a c cs h5 ws ∧ N.map D.str ++ [y] = N'.map D.str ∧ N'.length = i + 1 ∧ (∀ x ∈ N', x ∈ P) ∧ (∀ x ∈ P'', x ∈ P) ∧ P''.length + (i + 1) = P.length ∧ (P.Nodup → P''.Nodup ∧ ∀ x ∈ N', x ∉ P'')) ?_
    refine L1.popB pa pc (by omega) (by omega) fun j y h2 hy L2 => ?_
    have hj := (List.getElem?_eq_some_iff.mp hy).1
    refine ⟨h2, le.refl, N ++ [y], P'.eraseIdx j, L2, by rw [List.map_append]; rfl, by rw [List.length_append, hN]; rfl, fun z hz => ?_, fun z hz => mP z (List.mem_of_mem_eraseIdx hz), by rw [List.length_eraseIdx_of_lt hj]; omega, fun z => ?_⟩
    rotate_left
    · obtain ⟨z1, z2⟩ := nd z
      have z3 := List.nodup_cons.mp ((perm_erase hy).nodup_iff.mpr z1)
      refine ⟨z3.2, fun x hx => ?_⟩
      rcases List.mem_append.mp hx with hx | hx
      · exact fun w => z2 x hx (List.mem_of_mem_eraseIdx w)
      · rw [List.mem_singleton.mp hx]; exact z3.1
    rcases List.mem_append.mp hz with hz | hz
    · exact mN z hz
    · rw [List.mem_singleton.mp hz]; exact mP _ (List.mem_of_getElem? hy)
  · rintro acc h1 ⟨N, P', L1, rfl, hN, mN, mP, lP, nd⟩ p np
    rw [rg_len] at hN lP
    exact fin N P' p _ hN mN mP lP nd (L1.ne np) (L1.new np _)
/-- n rows of a name from the caller's row and some texts -/
theorem lcT_rows {h hh : MH} {a c pl : Addr} {cs : List Int} {ws : List (Addr × MO)} {P : List Str} {n : Nat} {g : G1} {te : E1} {vs : List Nat} {σ : Sl} {Q : KD} (T : List Str → Prop) (L : LV (up h pl (.lst (P.map D.str))) a c cs hh ws) (hn : n ≤ P.length) (hP : P.length ≤ 1000)
    (hte : ∀ (x : D) (h1 : MH) (P1 : List Str) (Q' : KD), 0 < P1.length → P1.length ≤ 1000 → LV (up h pl (.lst (P1.map D.str))) a c cs h1 ws → (∀ (j : Nat) (y : Str) (S : List Str) (h2 : MH), P1[j]? = some y → T S → LV (up h pl (.lst ((P1.eraseIdx j).map D.str))) a c cs h2 ws → Q' (rowD (y, S)) h2) → g x (wipeD σ vs) h1 fun σ2 h2 => te σ2 h2 Q')
    (fin : ∀ (N : List (Str × List Str)) (P' : List Str) (p : Addr) (h1 : MH), N.length = n → (∀ r ∈ N, r.1 ∈ P ∧ T r.2) → (∀ x ∈ P', x ∈ P) → P'.length + n = P.length → p ≠ a → LV (up h pl (.lst (P'.map D.str))) a c cs h1 ((p, .lst (N.map rowD)) :: ws) → Q (.ref p) h1) :
    lcT (rgD 0 ((n : Nat) : Int).toNat) (fun _ => True) g dYes te vs σ Q hh := by
  refine ⟨by rw [rg_len]; exact Nat.le_of_lt (sl_lt (by omega)), fun i acc h1 => ∃ (N : List (Str × List Str)) (P' : List Str), LV (up h pl (.lst (P'.map D.str))) a c cs h1 ws ∧ acc = N.map rowD ∧ N.length = i ∧ (∀ r ∈ N, r.1 ∈ P ∧ T r.2) ∧ (∀ x ∈ P', x ∈ P) ∧ P'.length + i = P.length, ⟨hh, le.refl, [], P, L, rfl, rfl, by simp, fun _ z => z, by omega⟩, fun _ _ _ _ => trivial, ?_, ?_⟩
  · rintro i x acc h1 hx ⟨N, P', L1, rfl, hN, mN, mP, lP⟩
    obtain ⟨hi, rfl⟩ := rg_at hx
    refine hte _ h1 P' (fun y h4 => ∃ h5, le h5 h4 ∧ ∃ (N' : List (Str × List Str)) (P'' : List Str), LV (up h pl (.lst (P''.map D.str))) a c cs h5 ws ∧ N.map rowD ++ [y] = N'.map rowD ∧ N'.length = i + 1 ∧ (∀ r ∈ N', r.1 ∈ P ∧ T r.2) ∧ (∀ x ∈ P'', x ∈ P) ∧ P''.length + (i + 1) = P.length) (by omega) (by omega) L1 fun j y S h2 hy hS L2 => ?_
    have hj := (List.getElem?_eq_some_iff.mp hy).1
    refine ⟨h2, le.refl, N ++ [(y, S)], P'.eraseIdx j, L2, by rw [List.map_append]; rfl, by rw [List.length_append, hN]; rfl, fun z hz => ?_, fun z hz => mP z (List.mem_of_mem_eraseIdx hz), by rw [List.length_eraseIdx_of_lt hj]; omega⟩
    rcases List.mem_append.mp hz with hz | hz
    · exact mN z hz
    · rw [List.mem_singleton.mp hz]; exact ⟨mP _ (List.mem_of_getElem? hy), hS⟩
  · rintro acc h1 ⟨N, P', L1, rfl, hN, mN, mP, lP⟩ p np
    rw [rg_len] at hN lP
    exact fin N P' p _ hN mN mP lP (L1.ne np) (L1.new np _)
/-! the plan while it is made -/
abbrev Mp := List (Str × Addr)
def mF (m : Mp) : Str → Option D := fun x => (m.lookup x).map D.ref
structure PSt (h0 : MH) (a c : Addr) (cs : List Int) (pl : Addr) (P : List Str) (p : Addr) (m : Mp) (ws : List (Addr × MO)) (hh : MH) : Prop where
  lv : ∃ kvs, LV (up h0 pl (.lst (P.map D.str))) a c cs hh ((p, .dic kvs) :: ws) ∧ DSt kvs (mF m) ∧ kvs.length ≤ 100 ∧ kvs.length ≤ m.length
section
variable {h0 hh h1 : MH} {a c pl p l : Addr} {cs : List Int} {P : List Str} {m : Mp} {ws : List (Addr × MO)} {Q : KD} {nm : Str} {x : MO}
theorem PSt.L (S : PSt h0 a c cs pl P p m ws hh) : LV (up h0 pl (.lst (P.map D.str))) a c cs hh ws := let ⟨_, L, _⟩ := S.lv; L.tl
theorem PSt.step {ws' : List (Addr × MO)} {P' : List Str} (S : PSt h0 a c cs pl P p m ws hh) (f : ∀ kvs, LV (up h0 pl (.lst (P.map D.str))) a c cs hh ((p, .dic kvs) :: ws) → LV (up h0 pl (.lst (P'.map D.str))) a c cs h1 ((p, .dic kvs) :: ws')) : PSt h0 a c cs pl P' p m ws' h1 := by
  obtain ⟨kvs, L, d⟩ := S.lv
  exact ⟨kvs, f kvs L, d⟩
theorem PSt.ix (S : PSt h0 a c cs pl P p m ws hh) (e : m.lookup nm = some l) (q : Q (.ref l) hh) : ixO (.str nm) hh Q (hh p) := by
  obtain ⟨kvs, L, d, _⟩ := S.lv
  rw [L.get 0 rfl, v_ixOd, v_ixDic, d.get nm]
  unfold mF
  rw [e]
  exact ⟨d.fit nm, q⟩
theorem PSt.set (S : PSt h0 a c cs pl P p m ws hh) (hm : m.length ≤ 50) {v : Addr} {n : MH → Prop} (q : ∀ h2, PSt h0 a c cs pl P p ((nm, v) :: m) ws h2 → n h2) : setO p (.str nm) (.ref v) hh n (hh p) := by
  obtain ⟨kvs, L, d, l1, l2⟩ := S.lv
  rw [L.get 0 rfl, v_setOd, v_setDic]
  have hl := dset_len kvs (.str nm) (.ref v)
  refine ⟨d.fit nm, sl_lt (by omega), q _ ⟨_, L.set 0 rfl _, (d.put nm (.ref v)).to fun y => ?_, by omega, by rw [List.length_cons]; omega⟩⟩
  unfold mF fup
  rw [List.lookup_cons]
  by_cases e : y = nm
  · subst e
    rw [if_pos rfl]; simp
  · rw [if_neg e]
    rw [show (y == nm) = false from beq_eq_false_iff_ne.mpr e]
theorem PSt.fat (S : PSt h0 a c cs pl P p m ws hh) {F : Str → Option (List D)} (f : ∀ nm xs, F nm = some xs → ∃ l, m.lookup nm = some l ∧ (l, MO.lst xs) ∈ ws) : FAt hh p F (fun b => b = a ∨ b = pl) := by
  obtain ⟨kvs, L, d, l1, l2⟩ := S.lv
  have nx : ∀ q ∈ (p, MO.dic kvs) :: ws, ¬ (q.1 = a ∨ q.1 = pl) := fun q hq z => by
    rcases z with z | z
    · exact L.na (l := q.1) (x := q.2) hq z
    · have := L.fr q hq
      rw [z, up_same] at this; cases this
  refine ⟨nx (p, .dic kvs) (by simp), kvs, L.get 0 rfl, d.all, fun nm xs e => ?_⟩
  obtain ⟨l, el, ml⟩ := f nm xs e
  refine ⟨l, by rw [d.get nm]; unfold mF; rw [el]; rfl, L.mem (List.mem_cons_of_mem _ ml), nx (l, _) (List.mem_cons_of_mem _ ml)⟩
end
theorem LV.swap {h hh : MH} {a c : Addr} {cs : List Int} {ws : List (Addr × MO)} {x y : Addr × MO} (L : LV h a c cs hh (x :: y :: ws)) : LV h a c cs hh (y :: x :: ws) := by
  refine ⟨L.dr0, L.ext, fun q hq => L.at_ q ?_, fun q hq => L.fr q ?_, ?_⟩
  · rcases List.mem_cons.mp hq with rfl | hq
    · simp
    · rcases List.mem_cons.mp hq with rfl | hq
      · simp
      · exact List.mem_cons_of_mem _ (List.mem_cons_of_mem _ hq)
  · rcases List.mem_cons.mp hq with rfl | hq
    · simp
    · rcases List.mem_cons.mp hq with rfl | hq
      · simp
      · exact List.mem_cons_of_mem _ (List.mem_cons_of_mem _ hq)
  · have := L.nd
    simp only [List.map_cons, List.nodup_cons, List.mem_cons, not_or] at this ⊢
    exact ⟨⟨fun z => this.1.1 z.symm, this.2.1⟩, this.1.2, this.2.2⟩
theorem LV.trans {h hh h2 : MH} {a c : Addr} {cs : List Int} {ws vs : List (Addr × MO)} (L1 : LV h a c cs hh ws) (L2 : LV hh a c cs h2 vs) : LV h a c cs h2 (vs ++ ws) := by
  obtain ⟨o1, k1, E1⟩ := L1.ext
  obtain ⟨o2, k2, E2⟩ := L2.ext
  refine ⟨L1.dr0, ⟨o2, k2, ?_, E2.at_⟩, fun q hq => ?_, fun q hq => ?_, ?_⟩
  · intro b u e
    by_cases z : b = a
    · subst z; rw [up_same] at e; cases e; exact E2.at_
    · rw [up_ne z] at e
      exact L2.old (E1.get e z) z
  · rcases List.mem_append.mp hq with hq | hq
    · exact L2.at_ q hq
    · exact L2.old (L1.at_ q hq) (L1.na (l := q.1) (x := q.2) hq)
  · rcases List.mem_append.mp hq with hq | hq
    · exact E1.fresh (L2.fr q hq)
    · exact L1.fr q hq
  · rw [List.map_append, List.nodup_append]
    refine ⟨L2.nd, L1.nd, fun x hx y hy e => ?_⟩
    obtain ⟨q, hq, rfl⟩ := List.mem_map.mp hx
    obtain ⟨r, hr, rfl⟩ := List.mem_map.mp hy
    have a1 := L2.fr q hq
    have a2 := L1.at_ r hr
    rw [e, a2] at a1; cases a1
section
variable {h hh : MH} {a c pl p : Addr} {cs : List Int} {P : List Str} {m : Mp} {ws : List (Addr × MO)} {k : Str} {V : S1} {N : Nd} {rich : D} {x4 x5 x6 : Option D} {T : E1}
theorem plan_row (S : PSt h a c cs pl P p m ws hh) (pa : pl ≠ a) (pc : pl ≠ c) (hm : m.length ≤ 30) (lo B : Nat) (hB : B ≤ P.length) (hP : P.length ≤ 1000)
    (hT : ∀ K : KD, (∀ (n : Nat) (h1 : MH), lo ≤ n → n ≤ B → PSt h a c cs pl P p m ws h1 → K (.int (n : Nat)) h1) → T [some (.ref a), some (.ref pl), some rich, some (.ref p), x4, x5, x6] hh K)
    (nx : ∀ (Nm P' : List Str) (l : Addr) (h2 : MH), lo ≤ Nm.length → Nm.length ≤ B → (∀ x ∈ Nm, x ∈ P) → (∀ x ∈ P', x ∈ P) → P'.length + Nm.length = P.length → (P.Nodup → P'.Nodup ∧ ∀ x ∈ Nm, x ∉ P') → PSt h a c cs pl P' p ((k, l) :: m) ((l, .lst (sD Nm)) :: ws) h2 → V N [some (.ref a), some (.ref pl), some rich, some (.ref p), x4, x5, x6] h2) :
    dSeq (dAsg (dLc (iRg1 (dCons T dNil)) (gN 6) dYes (dCall sp__law_pop (dCons (dVar 0) (dCons (dVar 1) dNil))) [6]) (gSb (dVar 3) (dC (.str k)) setD)) V N [some (.ref a), some (.ref pl), some rich, some (.ref p), x4, x5, x6] hh := by
  walk_at "e0"
  refine hT _ fun n h1 n0 n1 S1 => ?_
  walk_at "e0"
  refine ⟨bnd62 (by omega), ?_⟩
  obtain ⟨kvs, L, d⟩ := S1.lv
  refine lcT_pops L pa pc (by omega) hP (fun x h1 Q' q => ?_) fun Nm P' l h2 hN mN mP lP nd la L2 => ?_
  · walk_at "e0"
    exact q
  walk_at "e0"
  have S2 : PSt h a c cs pl P' p m ((l, .lst (sD Nm)) :: ws) h2 := ⟨kvs, L2.swap, d⟩
  exact S2.set (by omega) fun h3 S3 => nx Nm P' l h3 (by omega) (by omega) mN mP (by omega) nd S3
end
end DL
namespace DL
open PySem PySem.Spec PyProof.Rows L2
local macro_rules | `(tactic| walk_at "ev") => `(tactic| try simp only [e_seq, e_next, e_brk, e_cnt, e_drop, e_ret, e_retN, e_ifS, e_asg, e_gN, e_gSb, e_gTp, e_gCn, e_gNl, e_var, e_varK, e_nth0, e_nthS, e_put0, e_putS, e_c, e_op, e_un, e_call, e_nil, e_cons, e_tup, e_lst, e_test, e_asB, e_tru, e_andT, e_orT, e_notT, e_andV, e_orV, e_notV, e_if, e_aug, e_augS, e_sl, e_part, e_partK, e_noPart, e_bm0, e_bm, e_join, e_yes, e_wipe0, e_wipeS, e_lc, e_for, v_add, v_addS, v_addT, v_iadd, v_sub, v_mul, v_fdiv, v_mod, v_pow, v_shl, v_shr, v_neg, v_lt, v_le, v_gt, v_ge, v_eqI, v_neI, v_eqS, v_neS, v_inS, v_ninS, v_inT, v_ninT, v_inR, v_ninR, v_inSeq, v_seqO, v_seqR, v_seqT, v_seqL, v_ixR, v_ixT, v_ixL, v_ixS, v_atK, v_atSK, v_get, v_getL, v_getK, v_set, v_setL, v_setK, v_on1, v_on2, v_lenR, v_lenT, v_lenL, v_lenS, v_seqK, v_tuple, v_list, v_abs, v_intI, v_intB, v_okL, v_isLst, v_app, v_lstK, v_slS, v_slT, v_join, v_is, v_isnot, v_max, v_min, v_iSeq, v_srcT, v_srcL, v_srcS, v_srcR, v_srcO, v_iRg1, v_rg1, v_truN, v_truB, v_truI, v_truS, v_truR, v_truT, v_truRol, v_truL, v_inRol, v_ninRol, v_inO, v_inOd, v_inDic, v_ixO, v_ixOd, v_ixSeq, v_ixDic, v_dgetK, v_ixStr, v_getO, v_getOd, v_setO, v_setOd, v_setDic, v_lenO, v_lenOd, e_dic0, e_disp, e_pairs0, e_pairsS, e_chain, v_bits, v_iRg3, v_rg3, v_iRg2, v_rg2, v_iEn, v_enT, v_enR, v_enO, v_iZp, v_zpT, v_zpR, v_zpO, v_repr, v_strI, v_strS, v_addR, v_and, v_slR, v_slL, v_ltS, v_srtT, v_srtR, v_srtO, v_srtD, v_revR, v_eqIS, v_neIS, v_eqB, v_neB])
local macro_rules | `(tactic| walk_at "e0") => `(tactic| try simp only [e_seq, e_brk, e_cnt, e_drop, e_ret, e_retN, e_ifS, e_asg, e_gN, e_gSb, e_gTp, e_gCn, e_gNl, e_var, e_varK, e_nth0, e_nthS, e_put0, e_putS, e_c, e_op, e_un, e_call, e_nil, e_cons, e_tup, e_lst, e_test, e_asB, e_tru, e_andT, e_orT, e_notT, e_andV, e_orV, e_notV, e_if, e_aug, e_augS, e_sl, e_part, e_partK, e_noPart, e_bm0, e_bm, e_join, e_yes, e_wipe0, e_wipeS, e_lc, e_for, v_add, v_addS, v_addT, v_iadd, v_sub, v_mul, v_fdiv, v_mod, v_pow, v_shl, v_shr, v_neg, v_lt, v_le, v_gt, v_ge, v_eqI, v_neI, v_eqS, v_neS, v_inS, v_ninS, v_inT, v_ninT, v_inR, v_ninR, v_inSeq, v_seqO, v_seqR, v_seqT, v_seqL, v_ixR, v_ixT, v_ixL, v_ixS, v_atK, v_atSK, v_get, v_getL, v_getK, v_set, v_setL, v_setK, v_on1, v_on2, v_lenR, v_lenT, v_lenL, v_lenS, v_seqK, v_tuple, v_list, v_abs, v_intI, v_intB, v_okL, v_isLst, v_app, v_lstK, v_slS, v_slT, v_join, v_is, v_isnot, v_max, v_min, v_iSeq, v_srcT, v_srcL, v_srcS, v_srcR, v_srcO, v_iRg1, v_rg1, v_truN, v_truB, v_truI, v_truS, v_truR, v_truT, v_truRol, v_truL, v_inRol, v_ninRol, v_inO, v_inOd, v_inDic, v_ixO, v_ixOd, v_ixSeq, v_ixDic, v_dgetK, v_ixStr, v_getO, v_getOd, v_setO, v_setOd, v_setDic, v_lenO, v_lenOd, e_dic0, e_disp, e_pairs0, e_pairsS, e_chain, v_bits, v_iRg3, v_rg3, v_iRg2, v_rg2, v_iEn, v_enT, v_enR, v_enO, v_iZp, v_zpT, v_zpR, v_zpO, v_repr, v_strI, v_strS, v_addR, v_and, v_slR, v_slL, v_ltS, v_srtT, v_srtR, v_srtO, v_srtD, v_revR, v_revT, v_isB, v_iZs, v_zsT, v_eqIS, v_neIS, v_eqB, v_neB])
section
variable {h0 hh h1 : MH} {a c pl p l : Addr} {cs : List Int} {P : List Str} {m : Mp} {ws : List (Addr × MO)} {Q : KD}
theorem PSt.draw (S : PSt h0 a c cs pl P p m ws hh) {n : Int} (hn : 0 < n) (hn2 : n < 2 ^ 64) (q : ∀ (r : Nat) h1, (r : Int) < n → PSt h0 a c cs pl P p m ws h1 → Q (.int (r : Nat)) h1) : sp__law_draw [.ref a, .int n] hh Q := by
  obtain ⟨kvs, L, d⟩ := S.lv
  refine L.draw hn hn2 fun r h2 r0 r1 L2 => ?_
  obtain ⟨r, rfl⟩ := Int.eq_ofNat_of_zero_le r0
  exact q r h2 r1 ⟨kvs, L2, d⟩
variable {x4 x5 x6 : Option D} {rich : Nat}
theorem cnt_A (S : PSt h0 a c cs pl P p m ws hh) (hr : rich ≤ 3) (q : ∀ (n : Nat) (h1 : MH), 1 ≤ n → n ≤ 2 → PSt h0 a c cs pl P p m ws h1 → Q (.int (n : Nat)) h1) :
    (dOp addD (dC (.int 1)) (dCall sp__law_draw (dCons (dVar 0) (dCons (dOp addD (dC (.int 1)) (dOp fdivD (dVar 2) (dC (.int 2)))) dNil)))) [some (.ref a), some (.ref pl), some (.int (rich : Nat)), some (.ref p), x4, x5, x6] hh Q := by
  walk_at "e0"
  refine ⟨divOk_2, S.draw (by omega) (by omega) fun r h1 r1 S1 => ?_⟩
  have := q (1 + r) h1 (by omega) (by omega) S1
  rw [show ((1 + r : Nat) : Int) = 1 + (r : Int) by omega] at this
  exact this
theorem cnt_B (S : PSt h0 a c cs pl P p m ws hh) (hr : rich ≤ 3) (q : ∀ (n : Nat) (h1 : MH), 0 ≤ n → n ≤ 1 → PSt h0 a c cs pl P p m ws h1 → Q (.int (n : Nat)) h1) :
    (dCall sp__law_draw (dCons (dVar 0) (dCons (dOp addD (dC (.int 1)) (dOp fdivD (dVar 2) (dC (.int 2)))) dNil))) [some (.ref a), some (.ref pl), some (.int (rich : Nat)), some (.ref p), x4, x5, x6] hh Q := by
  walk_at "e0"
  refine ⟨divOk_2, S.draw (by omega) (by omega) fun r h1 r1 S1 => ?_⟩
  exact q r h1 (by omega) (by omega) S1
theorem cnt_C (S : PSt h0 a c cs pl P p m ws hh) (q : ∀ (n : Nat) (h1 : MH), 0 ≤ n → n ≤ 1 → PSt h0 a c cs pl P p m ws h1 → Q (.int (n : Nat)) h1) :
    (dCall sp__law_draw (dCons (dVar 0) (dCons (dC (.int 2)) dNil))) [some (.ref a), some (.ref pl), some (.int (rich : Nat)), some (.ref p), x4, x5, x6] hh Q := by
  walk_at "e0"
  exact S.draw (by omega) (by omega) fun r h1 r1 S1 => q r h1 (by omega) (by omega) S1
theorem cnt_D (S : PSt h0 a c cs pl P p m ws hh) (q : ∀ (n : Nat) (h1 : MH), 1 ≤ n → n ≤ 2 → PSt h0 a c cs pl P p m ws h1 → Q (.int (n : Nat)) h1) :
    (dOp addD (dC (.int 1)) (dCall sp__law_draw (dCons (dVar 0) (dCons (dC (.int 2)) dNil)))) [some (.ref a), some (.ref pl), some (.int (rich : Nat)), some (.ref p), x4, x5, x6] hh Q := by
  walk_at "e0"
  refine S.draw (by omega) (by omega) fun r h1 r1 S1 => ?_
  have := q (1 + r) h1 (by omega) (by omega) S1
  rw [show ((1 + r : Nat) : Int) = 1 + (r : Int) by omega] at this
  exact this
theorem PSt.drop {w : Addr × MO} (S : PSt h0 a c cs pl P p m (w :: ws) hh) : PSt h0 a c cs pl P p m ws hh := S.step fun _ L => L.kp
end
def sp__law_plan : P1 := fun ds h Q => ∃ (a c : Addr) (cs : List Int) (pl : Addr) (P : List Str) (rich : Nat), ds = [.ref a, .ref pl, .int (rich : Nat)] ∧ Dr a c cs h ∧ pl ≠ a ∧ pl ≠ c ∧ h pl = some (.lst (P.map D.str)) ∧ rich ≤ 3 ∧ 40 ≤ P.length ∧ P.length ≤ 1000 ∧ P.Nodup ∧ (∀ x ∈ P, GN x) ∧
  ∀ (v : Pl) (P' : List Str) (p : Addr) (h2 : MH), (∀ x ∈ P', x ∈ P) → P'.length ≤ P.length → LV (up h pl (.lst (P'.map D.str))) a c cs h2 [] → PlAt h2 p v (fun b => b = a ∨ b = pl) → Q (.ref p) h2
theorem len__law_plan : ∀ ds h Q, sp__law_plan ds h Q → ds.length = 3 := fun ds h Q ⟨_, _, _, _, _, _, e, _⟩ => by rw [e]; rfl
/-- what the first rows lay -/
structure A5 (A G T B : List Str) (P1 P : List Str) : Prop where
  sub : ∀ x ∈ P1, x ∈ P
  la : 1 ≤ A.length ∧ A.length ≤ 2
  lg : 1 ≤ G.length ∧ G.length ≤ 2
  lt : 1 ≤ T.length ∧ T.length ≤ 2
  lb : B.length ≤ 1
  ma : ∀ x ∈ A, x ∈ P
  mg : ∀ x ∈ G, x ∈ P
  mt : ∀ x ∈ T, x ∈ P
  mb : ∀ x ∈ B, x ∈ P
  dis : P.Nodup → ∀ x ∈ A, x ∉ T
abbrev kA := Str.ofString "asker"
abbrev kG := Str.ofString "group"
abbrev kT := Str.ofString "thing"
abbrev kB := Str.ofString "badge"
abbrev kTg := Str.ofString "tags"
theorem plan_a {h hh : MH} {a c pl p : Addr} {cs : List Int} {P : List Str} {rich : Nat} {Q : KD} {N : Nd} (S : PSt h a c cs pl P p [] [] hh) (pa : pl ≠ a) (pc : pl ≠ c) (hr : rich ≤ 3) (hP : 40 ≤ P.length) (hP2 : P.length ≤ 1000)
    (nx : ∀ (A G T B P1 : List Str) (lA lG lT lB : Addr) (h2 : MH), A5 A G T B P1 P → P1.length + 7 ≥ P.length → P1.length ≤ P.length → PSt h a c cs pl P1 p [(kB, lB), (kT, lT), (kG, lG), (kA, lA)] [(lB, .lst (sD B)), (lT, .lst (sD T)), (lG, .lst (sD G)), (lA, .lst (sD A))] h2 →
      rd__law_plan_5 sp__law_draw sp__law_pop sp__law_some sp__law_plan_ties sp__law_marks sp__law_plan_tests sp__law_pick N [some (.ref a), some (.ref pl), some (.int (rich : Nat)), some (.ref p), none, none, none] h2) :
    rd__law_plan_1 sp__law_draw sp__law_pop sp__law_some sp__law_plan_ties sp__law_marks sp__law_plan_tests sp__law_pick N [some (.ref a), some (.ref pl), some (.int (rich : Nat)), some (.ref p), none, none, none] hh := by
  unfold rd__law_plan_1
  refine plan_row S pa pc (by decide) 1 2 (by omega) hP2 (fun K q => cnt_A S hr q) fun A P1 lA h1 a1 a2 aP s1 n1 d1 S1 => ?_
  unfold rd__law_plan_2
  refine plan_row S1 pa pc (by simp) 1 2 (by omega) (by omega) (fun K q => cnt_A S1 hr q) fun G P2 lG h2 g1 g2 gP s2 n2 d2 S2 => ?_
  unfold rd__law_plan_3
  refine plan_row S2 pa pc (by simp) 1 2 (by omega) (by omega) (fun K q => cnt_A S2 hr q) fun T P3 lT h3 t1 t2 tP s3 n3 d3 S3 => ?_
  unfold rd__law_plan_4
  refine plan_row S3 pa pc (by simp) 0 1 (by omega) (by omega) (fun K q => cnt_B S3 hr q) fun B P4 lB h4 b1 b2 bP s4 n4 d4 S4 => ?_
  exact nx A G T B P4 lA lG lT lB h4 ⟨fun x hx => s1 x (s2 x (s3 x (s4 x hx))), ⟨a1, a2⟩, ⟨g1, g2⟩, ⟨t1, t2⟩, b2, aP, fun x hx => s1 x (gP x hx), fun x hx => s1 x (s2 x (tP x hx)), fun x hx => s1 x (s2 x (s3 x (bP x hx))), fun nd x hx z => (d1 nd).2 x hx (s2 x (tP x z))⟩ (by omega) (by omega) S4
end DL
namespace DL
open PySem PySem.Spec PyProof.Rows L2
local macro_rules | `(tactic| walk_at "ev") => `(tactic| try simp only [e_seq, e_next, e_brk, e_cnt, e_drop, e_ret, e_retN, e_ifS, e_asg, e_gN, e_gSb, e_gTp, e_gCn, e_gNl, e_var, e_varK, e_nth0, e_nthS, e_put0, e_putS, e_c, e_op, e_un, e_call, e_nil, e_cons, e_tup, e_lst, e_test, e_asB, e_tru, e_andT, e_orT, e_notT, e_andV, e_orV, e_notV, e_if, e_aug, e_augS, e_sl, e_part, e_partK, e_noPart, e_bm0, e_bm, e_join, e_yes, e_wipe0, e_wipeS, e_lc, e_for, v_add, v_addS, v_addT, v_iadd, v_sub, v_mul, v_fdiv, v_mod, v_pow, v_shl, v_shr, v_neg, v_lt, v_le, v_gt, v_ge, v_eqI, v_neI, v_eqS, v_neS, v_inS, v_ninS, v_inT, v_ninT, v_inR, v_ninR, v_inSeq, v_seqO, v_seqR, v_seqT, v_seqL, v_ixR, v_ixT, v_ixL, v_ixS, v_atK, v_atSK, v_get, v_getL, v_getK, v_set, v_setL, v_setK, v_on1, v_on2, v_lenR, v_lenT, v_lenL, v_lenS, v_seqK, v_tuple, v_list, v_abs, v_intI, v_intB, v_okL, v_isLst, v_app, v_lstK, v_slS, v_slT, v_join, v_is, v_isnot, v_max, v_min, v_iSeq, v_srcT, v_srcL, v_srcS, v_srcR, v_srcO, v_iRg1, v_rg1, v_truN, v_truB, v_truI, v_truS, v_truR, v_truT, v_truRol, v_truL, v_inRol, v_ninRol, v_inO, v_inOd, v_inDic, v_ixO, v_ixOd, v_ixSeq, v_ixDic, v_dgetK, v_ixStr, v_getO, v_getOd, v_setO, v_setOd, v_setDic, v_lenO, v_lenOd, e_dic0, e_disp, e_pairs0, e_pairsS, e_chain, v_bits, v_iRg3, v_rg3, v_iRg2, v_rg2, v_iEn, v_enT, v_enR, v_enO, v_iZp, v_zpT, v_zpR, v_zpO, v_repr, v_strI, v_strS, v_addR, v_and, v_slR, v_slL, v_ltS, v_srtT, v_srtR, v_srtO, v_srtD, v_revR, v_eqIS, v_neIS, v_eqB, v_neB])
local macro_rules | `(tactic| walk_at "e0") => `(tactic| try simp only [e_seq, e_brk, e_cnt, e_drop, e_ret, e_retN, e_ifS, e_asg, e_gN, e_gSb, e_gTp, e_gCn, e_gNl, e_var, e_varK, e_nth0, e_nthS, e_put0, e_putS, e_c, e_op, e_un, e_call, e_nil, e_cons, e_tup, e_lst, e_test, e_asB, e_tru, e_andT, e_orT, e_notT, e_andV, e_orV, e_notV, e_if, e_aug, e_augS, e_sl, e_part, e_partK, e_noPart, e_bm0, e_bm, e_join, e_yes, e_wipe0, e_wipeS, e_lc, e_for, v_add, v_addS, v_addT, v_iadd, v_sub, v_mul, v_fdiv, v_mod, v_pow, v_shl, v_shr, v_neg, v_lt, v_le, v_gt, v_ge, v_eqI, v_neI, v_eqS, v_neS, v_inS, v_ninS, v_inT, v_ninT, v_inR, v_ninR, v_inSeq, v_seqO, v_seqR, v_seqT, v_seqL, v_ixR, v_ixT, v_ixL, v_ixS, v_atK, v_atSK, v_get, v_getL, v_getK, v_set, v_setL, v_setK, v_on1, v_on2, v_lenR, v_lenT, v_lenL, v_lenS, v_seqK, v_tuple, v_list, v_abs, v_intI, v_intB, v_okL, v_isLst, v_app, v_lstK, v_slS, v_slT, v_join, v_is, v_isnot, v_max, v_min, v_iSeq, v_srcT, v_srcL, v_srcS, v_srcR, v_srcO, v_iRg1, v_rg1, v_truN, v_truB, v_truI, v_truS, v_truR, v_truT, v_truRol, v_truL, v_inRol, v_ninRol, v_inO, v_inOd, v_inDic, v_ixO, v_ixOd, v_ixSeq, v_ixDic, v_dgetK, v_ixStr, v_getO, v_getOd, v_setO, v_setOd, v_setDic, v_lenO, v_lenOd, e_dic0, e_disp, e_pairs0, e_pairsS, e_chain, v_bits, v_iRg3, v_rg3, v_iRg2, v_rg2, v_iEn, v_enT, v_enR, v_enO, v_iZp, v_zpT, v_zpR, v_zpO, v_repr, v_strI, v_strS, v_addR, v_and, v_slR, v_slL, v_ltS, v_srtT, v_srtR, v_srtO, v_srtD, v_revR, v_revT, v_isB, v_iZs, v_zsT, v_eqIS, v_neIS, v_eqB, v_neB])
section
variable {h0 hh h1 : MH} {a c pl p l : Addr} {cs : List Int} {P : List Str} {m : Mp} {ws : List (Addr × MO)} {Q : KD}
theorem PSt.newE {q : Addr} {x : MO} (S : PSt h0 a c cs pl P p m ws hh) (n : hh q = none) (e : up hh q x = h1) : PSt h0 a c cs pl P p m ((q, x) :: ws) h1 := S.step fun _ L => (L.newE n e).swap
theorem PSt.get (S : PSt h0 a c cs pl P p m ws hh) {x : MO} (i : Nat) (e : ws[i]? = some (l, x)) : hh l = some x := S.L.get i e
end
theorem plan_b {h hh : MH} {a c pl p : Addr} {cs : List Int} {P A G T B : List Str} {lA lG lT lB : Addr} {rich : Nat} {Q : KD} {N : Nd} (pa : pl ≠ a) (pc : pl ≠ c) (hr : rich ≤ 3) (hP : 30 ≤ P.length) (hP2 : P.length ≤ 1000)
    (lG1 : G.length ≤ 2) (lA1 : A.length ≤ 2) (lT1 : T.length ≤ 2)
    (S : PSt h a c cs pl P p [(kB, lB), (kT, lT), (kG, lG), (kA, lA)] [(lB, .lst (sD B)), (lT, .lst (sD T)), (lG, .lst (sD G)), (lA, .lst (sD A))] hh)
    (nx : ∀ (Tg : List (Str × List Str)) (P1 : List Str) (l1 l2 l3 le : Addr) (x6 : Option D) (h2 : MH), Tg.length ≤ 7 → (∀ r ∈ Tg, r.1 ∈ P ∧ r.2.length ≤ 200) → (∀ x ∈ P1, x ∈ P) → P1.length + 7 ≥ P.length → P1.length ≤ P.length →
      PSt h a c cs pl P1 p [(kTg, l2), (kTg, l1), (kB, lB), (kT, lT), (kG, lG), (kA, lA)] [(l2, .lst (Tg.map rowD)), (le, .lst ((A ++ T).map D.str)), (lB, .lst (sD B)), (lT, .lst (sD T)), (lG, .lst (sD G)), (lA, .lst (sD A))] h2 →
      rd__law_plan_8 sp__law_draw sp__law_pop sp__law_some sp__law_plan_ties sp__law_marks sp__law_plan_tests sp__law_pick N [some (.ref a), some (.ref pl), some (.int (rich : Nat)), some (.ref p), some (.ref le), none, x6] h2) :
    rd__law_plan_5 sp__law_draw sp__law_pop sp__law_some sp__law_plan_ties sp__law_marks sp__law_plan_tests sp__law_pick N [some (.ref a), some (.ref pl), some (.int (rich : Nat)), some (.ref p), none, none, none] hh := by
  unfold rd__law_plan_5
  walk_at "e0"
  refine S.draw (by omega) (by omega) fun r h1 r1 S1 => ?_
  walk_at "e0"
  refine ⟨bnd62 (by omega), ?_⟩
  obtain ⟨kvs, L, d⟩ := S1.lv
  refine lcT_rows (fun S => S.length ≤ 200) L (by omega) hP2 (fun x h2 P1 Q' p0 p1 L1 q => ?_) fun R1 P1 l1 h2 n1 m1 s1 k1 la L2 => ?_
  · walk_at "e0"
    refine L1.popB pa pc p0 (by omega) fun j y h3 hy L3 => ?_
    walk_at "e0"
    have S3 : PSt h a c cs pl _ p _ _ h3 := ⟨kvs, L3, d⟩
    refine S3.ix (l := lG) rfl ?_
    refine ⟨a, c, cs, G, lG, 1, rfl, L3.dr, L3.na (x := .lst (sD G)) (by simp), L3.get 3 rfl, by omega, by omega, fun S o s k m z _ ns => ?_⟩
    have sa := L3.ne ns
    have L4 := (L3.drawn k).new (p := s) (by rw [up_ne sa]; exact ns) (.lst (S.map D.str))
    generalize up (up h3 a o) s (.lst (S.map D.str)) = h4 at L4
    walk_at "e0"
    rw [L4.get 0 rfl]
    walk_at "e0"
    refine ⟨by show 2 ≤ sizeLine; decide, q j y S h4 hy (by omega) L4.tl⟩
  walk_at "e0"
  have S2 : PSt h a c cs pl P1 p _ _ h2 := ⟨kvs, L2.swap, d⟩
  refine S2.set (by simp) fun h3 S3 => ?_
  unfold rd__law_plan_6
  walk_at "e0"
  refine S3.ix (l := lA) rfl ?_
  refine S3.ix (l := lT) rfl ?_
  refine ⟨_, _, S3.get 4 rfl, S3.get 2 rfl, by unfold sD; rw [List.length_map, List.length_map]; exact Nat.le_of_lt (sl_lt (by omega)), ?_⟩
  intro le nle
  generalize ele : up _ le _ = h4
  have eE : sD A ++ sD T = (A ++ T).map D.str := by unfold sD; rw [List.map_append]
  rw [eE] at ele
  have S4 := S3.newE nle ele
  have lea := S3.L.ne nle
  unfold rd__law_plan_7
  walk_at "e0"
  refine S4.ix (l := l1) rfl ?_
  refine S4.draw (by omega) (by omega) fun r' h5 r1' S5 => ?_
  walk_at "e0"
  refine ⟨bnd62 (by omega), ?_⟩
  obtain ⟨kvs2, L5, d2⟩ := S5.lv
  refine lcT_rows (fun S => S.length ≤ 200) L5 (by omega) (by omega) (fun x h2 P2 Q' p0 p1 L1 q => ?_) fun R2 P2 l2 h6 n2 m2 s2 k2 la2 L6 => ?_
  · walk_at "e0"
    refine L1.popB pa pc p0 (by omega) fun j y h3 hy L3 => ?_
    walk_at "e0"
    refine ⟨a, c, cs, A ++ T, le, 1, rfl, L3.dr, lea, L3.get 1 rfl, by rw [List.length_append]; omega, by omega, fun S o s k m z _ ns => ?_⟩
    have sa := L3.ne ns
    have L4 := (L3.drawn k).new (p := s) (by rw [up_ne sa]; exact ns) (.lst (S.map D.str))
    generalize up (up h3 a o) s (.lst (S.map D.str)) = h4 at L4
    walk_at "e0"
    rw [L4.get 0 rfl]
    walk_at "e0"
    rw [List.length_append] at z
    refine ⟨by show 2 ≤ sizeLine; decide, q j y S h4 hy (by omega) L4.tl⟩
  have S6 : PSt h a c cs pl P2 p _ _ h6 := ⟨kvs2, L6.swap, d2⟩
  refine ⟨_, _, S6.get 2 rfl, S6.get 0 rfl, by rw [List.length_map, List.length_map]; exact Nat.le_of_lt (sl_lt (by omega)), ?_⟩
  intro l3 nl3
  generalize el3 : up _ l3 _ = h7
  rw [← List.map_append] at el3
  have S7 := S6.newE nl3 el3
  walk_at "e0"
  refine S7.set (by simp) fun h8 S8 => ?_
  have S9 := S8.step (ws' := [(l3, .lst ((R1 ++ R2).map rowD)), (le, .lst ((A ++ T).map D.str)), (lB, .lst (sD B)), (lT, .lst (sD T)), (lG, .lst (sD G)), (lA, .lst (sD A))]) fun _ L => L.sub (List.Sublist.cons_cons _ (List.Sublist.cons_cons _ (List.Sublist.cons _ (List.Sublist.cons_cons _ (List.Sublist.cons _ (List.Sublist.refl _))))))
  exact nx (R1 ++ R2) P2 l1 l3 l3 le _ h8 (by rw [List.length_append]; omega) (fun r hr => by
    rcases List.mem_append.mp hr with hr | hr
    · exact m1 r hr
    · exact ⟨s1 _ (m2 r hr).1, (m2 r hr).2⟩) (fun x hx => s1 x (s2 x hx)) (by omega) (by omega) S9
end DL
namespace DL
open PySem PySem.Spec PyProof.Rows L2
local macro_rules | `(tactic| walk_at "ev") => `(tactic| try simp only [e_seq, e_next, e_brk, e_cnt, e_drop, e_ret, e_retN, e_ifS, e_asg, e_gN, e_gSb, e_gTp, e_gCn, e_gNl, e_var, e_varK, e_nth0, e_nthS, e_put0, e_putS, e_c, e_op, e_un, e_call, e_nil, e_cons, e_tup, e_lst, e_test, e_asB, e_tru, e_andT, e_orT, e_notT, e_andV, e_orV, e_notV, e_if, e_aug, e_augS, e_sl, e_part, e_partK, e_noPart, e_bm0, e_bm, e_join, e_yes, e_wipe0, e_wipeS, e_lc, e_for, v_add, v_addS, v_addT, v_iadd, v_sub, v_mul, v_fdiv, v_mod, v_pow, v_shl, v_shr, v_neg, v_lt, v_le, v_gt, v_ge, v_eqI, v_neI, v_eqS, v_neS, v_inS, v_ninS, v_inT, v_ninT, v_inR, v_ninR, v_inSeq, v_seqO, v_seqR, v_seqT, v_seqL, v_ixR, v_ixT, v_ixL, v_ixS, v_atK, v_atSK, v_get, v_getL, v_getK, v_set, v_setL, v_setK, v_on1, v_on2, v_lenR, v_lenT, v_lenL, v_lenS, v_seqK, v_tuple, v_list, v_abs, v_intI, v_intB, v_okL, v_isLst, v_app, v_lstK, v_slS, v_slT, v_join, v_is, v_isnot, v_max, v_min, v_iSeq, v_srcT, v_srcL, v_srcS, v_srcR, v_srcO, v_iRg1, v_rg1, v_truN, v_truB, v_truI, v_truS, v_truR, v_truT, v_truRol, v_truL, v_inRol, v_ninRol, v_inO, v_inOd, v_inDic, v_ixO, v_ixOd, v_ixSeq, v_ixDic, v_dgetK, v_ixStr, v_getO, v_getOd, v_setO, v_setOd, v_setDic, v_lenO, v_lenOd, e_dic0, e_disp, e_pairs0, e_pairsS, e_chain, v_bits, v_iRg3, v_rg3, v_iRg2, v_rg2, v_iEn, v_enT, v_enR, v_enO, v_iZp, v_zpT, v_zpR, v_zpO, v_repr, v_strI, v_strS, v_addR, v_and, v_slR, v_slL, v_ltS, v_srtT, v_srtR, v_srtO, v_srtD, v_revR, v_eqIS, v_neIS, v_eqB, v_neB])
local macro_rules | `(tactic| walk_at "e0") => `(tactic| try simp only [e_seq, e_brk, e_cnt, e_drop, e_ret, e_retN, e_ifS, e_asg, e_gN, e_gSb, e_gTp, e_gCn, e_gNl, e_var, e_varK, e_nth0, e_nthS, e_put0, e_putS, e_c, e_op, e_un, e_call, e_nil, e_cons, e_tup, e_lst, e_test, e_asB, e_tru, e_andT, e_orT, e_notT, e_andV, e_orV, e_notV, e_if, e_aug, e_augS, e_sl, e_part, e_partK, e_noPart, e_bm0, e_bm, e_join, e_yes, e_wipe0, e_wipeS, e_lc, e_for, v_add, v_addS, v_addT, v_iadd, v_sub, v_mul, v_fdiv, v_mod, v_pow, v_shl, v_shr, v_neg, v_lt, v_le, v_gt, v_ge, v_eqI, v_neI, v_eqS, v_neS, v_inS, v_ninS, v_inT, v_ninT, v_inR, v_ninR, v_inSeq, v_seqO, v_seqR, v_seqT, v_seqL, v_ixR, v_ixT, v_ixL, v_ixS, v_atK, v_atSK, v_get, v_getL, v_getK, v_set, v_setL, v_setK, v_on1, v_on2, v_lenR, v_lenT, v_lenL, v_lenS, v_seqK, v_tuple, v_list, v_abs, v_intI, v_intB, v_okL, v_isLst, v_app, v_lstK, v_slS, v_slT, v_join, v_is, v_isnot, v_max, v_min, v_iSeq, v_srcT, v_srcL, v_srcS, v_srcR, v_srcO, v_iRg1, v_rg1, v_truN, v_truB, v_truI, v_truS, v_truR, v_truT, v_truRol, v_truL, v_inRol, v_ninRol, v_inO, v_inOd, v_inDic, v_ixO, v_ixOd, v_ixSeq, v_ixDic, v_dgetK, v_ixStr, v_getO, v_getOd, v_setO, v_setOd, v_setDic, v_lenO, v_lenOd, e_dic0, e_disp, e_pairs0, e_pairsS, e_chain, v_bits, v_iRg3, v_rg3, v_iRg2, v_rg2, v_iEn, v_enT, v_enR, v_enO, v_iZp, v_zpT, v_zpR, v_zpO, v_repr, v_strI, v_strS, v_addR, v_and, v_slR, v_slL, v_ltS, v_srtT, v_srtR, v_srtO, v_srtD, v_revR, v_revT, v_isB, v_iZs, v_zsT, v_eqIS, v_neIS, v_eqB, v_neB])
theorem plan_c {h hh : MH} {a c pl p : Addr} {cs : List Int} {P A G T B : List Str} {Tg : List (Str × List Str)} {l1 l2 le : Addr} {x6 : Option D} {m : Mp} {ws : List (Addr × MO)} {rich : Nat} {Q : KD} {N : Nd} (pa : pl ≠ a) (pc : pl ≠ c) (hr : rich ≤ 3) (hP : 20 ≤ P.length) (hP2 : P.length ≤ 1000) (lA1 : A.length ≤ 2) (lT1 : T.length ≤ 2)
    (hTg : Tg.length ≤ 7) (hm : m.length ≤ 10) (em : m.lookup kTg = some l2)
    (S : PSt h a c cs pl P p m ((l2, .lst (Tg.map rowD)) :: (le, .lst ((A ++ T).map D.str)) :: ws) hh)
    (nx : ∀ (Nu : List (Str × List Str)) (P1 : List Str) (l3 l4 : Addr) (h2 : MH), Nu.length ≤ 3 → (∀ r ∈ Nu, r.1 ∈ P ∧ r.2 = A ++ T) → (∀ x ∈ P1, x ∈ P) → P1.length + 3 ≥ P.length → P1.length ≤ P.length →
      PSt h a c cs pl P1 p ((Str.ofString "numbers", l4) :: (kTg, l3) :: m) ((l4, .lst (Nu.map rowD)) :: (l3, .lst ((Tg.take 4).map rowD)) :: ws) h2 →
      rd__law_plan_10 sp__law_draw sp__law_pop sp__law_some sp__law_plan_ties sp__law_marks sp__law_plan_tests sp__law_pick N [some (.ref a), some (.ref pl), some (.int (rich : Nat)), some (.ref p), some (.ref le), none, x6] h2) :
    rd__law_plan_8 sp__law_draw sp__law_pop sp__law_some sp__law_plan_ties sp__law_marks sp__law_plan_tests sp__law_pick N [some (.ref a), some (.ref pl), some (.int (rich : Nat)), some (.ref p), some (.ref le), none, x6] hh := by
  unfold rd__law_plan_8
  walk_at "e0"
  refine S.ix em ?_
  walk_at "e0"
  rw [S.get 0 rfl]
  walk_at "e0"
  intro l3 nl3
  generalize el3 : up _ l3 _ = h1
  rw [show (4 : Int) = ((4 : Nat) : Int) from rfl, cut_k, ← List.map_take] at el3
  have S1 := S.newE nl3 el3
  refine S1.set (by omega) fun h2 S2 => ?_
  unfold rd__law_plan_9
  walk_at "e0"
  refine S2.draw (by omega) (by omega) fun r h3 r1 S3 => ?_
  walk_at "e0"
  refine ⟨bnd62 (by omega), ?_⟩
  obtain ⟨kvs, L, d⟩ := S3.lv
  refine lcT_rows (fun S => S = A ++ T) L (by omega) hP2 (fun x h2 P1 Q' p0 p1 L1 q => ?_) fun R1 P1 l4 h4 n1 m1 s1 k1 la L4 => ?_
  · walk_at "e0"
    refine L1.popB pa pc p0 (by omega) fun j y h3 hy L3 => ?_
    walk_at "e0"
    rw [L3.get 3 rfl]
    walk_at "e0"
    refine ⟨by show 2 ≤ sizeLine; decide, q j y (A ++ T) h3 hy rfl L3⟩
  walk_at "e0"
  have S4 : PSt h a c cs pl P1 p _ _ h4 := ⟨kvs, L4.swap, d⟩
  refine S4.set (by rw [List.length_cons]; omega) fun h5 S5 => ?_
  have S6 := S5.step (ws' := (l4, .lst (R1.map rowD)) :: (l3, .lst ((Tg.take 4).map rowD)) :: ws) fun _ L => L.sub (List.Sublist.cons_cons _ (List.Sublist.cons_cons _ (List.Sublist.cons_cons _ (List.Sublist.cons _ (List.Sublist.cons _ (List.Sublist.refl _))))))
  exact nx R1 P1 l3 l4 h5 (by omega) m1 s1 (by omega) (by omega) S6
/-- the rows behind the numbers -/
structure A6 (F D2 Ac Du : List Str) (P1 P : List Str) : Prop where
  sub : ∀ x ∈ P1, x ∈ P
  lf : F.length ≤ 1
  ld : D2.length ≤ 1
  lac : Ac.length ≤ 2
  ldu : Du.length ≤ 1
theorem plan_d {h hh : MH} {a c pl p : Addr} {cs : List Int} {P : List Str} {x4 x5 x6 : Option D} {m : Mp} {ws : List (Addr × MO)} {rich : Nat} {Q : KD} {N : Nd} (pa : pl ≠ a) (pc : pl ≠ c) (hr : rich ≤ 3) (hP : 15 ≤ P.length) (hP2 : P.length ≤ 1000) (hm : m.length ≤ 20)
    (S : PSt h a c cs pl P p m ws hh)
    (nx : ∀ (F D2 Ac Du P1 : List Str) (l1 l2 l3 l4 : Addr) (h2 : MH), A6 F D2 Ac Du P1 P → P1.length + 5 ≥ P.length → P1.length ≤ P.length → PSt h a c cs pl P1 p ((Str.ofString "duty", l4) :: (Str.ofString "action", l3) :: (Str.ofString "asked", l2) :: (Str.ofString "flag", l1) :: m) ((l4, .lst (sD Du)) :: (l3, .lst (sD Ac)) :: (l2, .lst (sD D2)) :: (l1, .lst (sD F)) :: ws) h2 →
      rd__law_plan_14 sp__law_draw sp__law_pop sp__law_some sp__law_plan_ties sp__law_marks sp__law_plan_tests sp__law_pick N [some (.ref a), some (.ref pl), some (.int (rich : Nat)), some (.ref p), x4, x5, x6] h2) :
    rd__law_plan_10 sp__law_draw sp__law_pop sp__law_some sp__law_plan_ties sp__law_marks sp__law_plan_tests sp__law_pick N [some (.ref a), some (.ref pl), some (.int (rich : Nat)), some (.ref p), x4, x5, x6] hh := by
  unfold rd__law_plan_10
  refine plan_row S pa pc (by omega) 0 1 (by omega) hP2 (fun K q => cnt_C S q) fun A P1 lA h1 a1 a2 aP s1 n1 d1 S1 => ?_
  unfold rd__law_plan_11
  refine plan_row S1 pa pc (by rw [List.length_cons]; omega) 0 1 (by omega) (by omega) (fun K q => cnt_B S1 hr q) fun G P2 lG h2 g1 g2 gP s2 n2 d2 S2 => ?_
  unfold rd__law_plan_12
  refine plan_row S2 pa pc (by rw [List.length_cons, List.length_cons]; omega) 1 2 (by omega) (by omega) (fun K q => cnt_D S2 q) fun T P3 lT h3 t1 t2 tP s3 n3 d3 S3 => ?_
  unfold rd__law_plan_13
  refine plan_row S3 pa pc (by rw [List.length_cons, List.length_cons, List.length_cons]; omega) 0 1 (by omega) (by omega) (fun K q => cnt_C S3 q) fun B P4 lB h4 b1 b2 bP s4 n4 d4 S4 => ?_
  exact nx A G T B P4 lA lG lT lB h4 ⟨fun x hx => s1 x (s2 x (s3 x (s4 x hx))), a2, g2, t2, b2⟩ (by omega) (by omega) S4
end DL
namespace DL
open PySem PySem.Spec PyProof.Rows L2
local macro_rules | `(tactic| walk_at "ev") => `(tactic| try simp only [e_seq, e_next, e_brk, e_cnt, e_drop, e_ret, e_retN, e_ifS, e_asg, e_gN, e_gSb, e_gTp, e_gCn, e_gNl, e_var, e_varK, e_nth0, e_nthS, e_put0, e_putS, e_c, e_op, e_un, e_call, e_nil, e_cons, e_tup, e_lst, e_test, e_asB, e_tru, e_andT, e_orT, e_notT, e_andV, e_orV, e_notV, e_if, e_aug, e_augS, e_sl, e_part, e_partK, e_noPart, e_bm0, e_bm, e_join, e_yes, e_wipe0, e_wipeS, e_lc, e_for, v_add, v_addS, v_addT, v_iadd, v_sub, v_mul, v_fdiv, v_mod, v_pow, v_shl, v_shr, v_neg, v_lt, v_le, v_gt, v_ge, v_eqI, v_neI, v_eqS, v_neS, v_inS, v_ninS, v_inT, v_ninT, v_inR, v_ninR, v_inSeq, v_seqO, v_seqR, v_seqT, v_seqL, v_ixR, v_ixT, v_ixL, v_ixS, v_atK, v_atSK, v_get, v_getL, v_getK, v_set, v_setL, v_setK, v_on1, v_on2, v_lenR, v_lenT, v_lenL, v_lenS, v_seqK, v_tuple, v_list, v_abs, v_intI, v_intB, v_okL, v_isLst, v_app, v_lstK, v_slS, v_slT, v_join, v_is, v_isnot, v_max, v_min, v_iSeq, v_srcT, v_srcL, v_srcS, v_srcR, v_srcO, v_iRg1, v_rg1, v_truN, v_truB, v_truI, v_truS, v_truR, v_truT, v_truRol, v_truL, v_inRol, v_ninRol, v_inO, v_inOd, v_inDic, v_ixO, v_ixOd, v_ixSeq, v_ixDic, v_dgetK, v_ixStr, v_getO, v_getOd, v_setO, v_setOd, v_setDic, v_lenO, v_lenOd, e_dic0, e_disp, e_pairs0, e_pairsS, e_chain, v_bits, v_iRg3, v_rg3, v_iRg2, v_rg2, v_iEn, v_enT, v_enR, v_enO, v_iZp, v_zpT, v_zpR, v_zpO, v_repr, v_strI, v_strS, v_addR, v_and, v_slR, v_slL, v_ltS, v_srtT, v_srtR, v_srtO, v_srtD, v_revR, v_eqIS, v_neIS, v_eqB, v_neB])
local macro_rules | `(tactic| walk_at "e0") => `(tactic| try simp only [e_seq, e_brk, e_cnt, e_drop, e_ret, e_retN, e_ifS, e_asg, e_gN, e_gSb, e_gTp, e_gCn, e_gNl, e_var, e_varK, e_nth0, e_nthS, e_put0, e_putS, e_c, e_op, e_un, e_call, e_nil, e_cons, e_tup, e_lst, e_test, e_asB, e_tru, e_andT, e_orT, e_notT, e_andV, e_orV, e_notV, e_if, e_aug, e_augS, e_sl, e_part, e_partK, e_noPart, e_bm0, e_bm, e_join, e_yes, e_wipe0, e_wipeS, e_lc, e_for, v_add, v_addS, v_addT, v_iadd, v_sub, v_mul, v_fdiv, v_mod, v_pow, v_shl, v_shr, v_neg, v_lt, v_le, v_gt, v_ge, v_eqI, v_neI, v_eqS, v_neS, v_inS, v_ninS, v_inT, v_ninT, v_inR, v_ninR, v_inSeq, v_seqO, v_seqR, v_seqT, v_seqL, v_ixR, v_ixT, v_ixL, v_ixS, v_atK, v_atSK, v_get, v_getL, v_getK, v_set, v_setL, v_setK, v_on1, v_on2, v_lenR, v_lenT, v_lenL, v_lenS, v_seqK, v_tuple, v_list, v_abs, v_intI, v_intB, v_okL, v_isLst, v_app, v_lstK, v_slS, v_slT, v_join, v_is, v_isnot, v_max, v_min, v_iSeq, v_srcT, v_srcL, v_srcS, v_srcR, v_srcO, v_iRg1, v_rg1, v_truN, v_truB, v_truI, v_truS, v_truR, v_truT, v_truRol, v_truL, v_inRol, v_ninRol, v_inO, v_inOd, v_inDic, v_ixO, v_ixOd, v_ixSeq, v_ixDic, v_dgetK, v_ixStr, v_getO, v_getOd, v_setO, v_setOd, v_setDic, v_lenO, v_lenOd, e_dic0, e_disp, e_pairs0, e_pairsS, e_chain, v_bits, v_iRg3, v_rg3, v_iRg2, v_rg2, v_iEn, v_enT, v_enR, v_enO, v_iZp, v_zpT, v_zpR, v_zpO, v_repr, v_strI, v_strS, v_addR, v_and, v_slR, v_slL, v_ltS, v_srtT, v_srtR, v_srtO, v_srtD, v_revR, v_revT, v_isB, v_iZs, v_zsT, v_eqIS, v_neIS, v_eqB, v_neB])
abbrev kNu := Str.ofString "numbers"
abbrev kFl := Str.ofString "flag"
abbrev kAs := Str.ofString "asked"
abbrev kAc := Str.ofString "action"
abbrev kDu := Str.ofString "duty"
abbrev kTi := Str.ofString "ties"
abbrev kNe := Str.ofString "nevers"
def f4 (A G T B : List Str) (x : Str) : Option (List D) :=
  if x = kA then some (sD A) else if x = kG then some (sD G) else if x = kT then some (sD T) else if x = kB then some (sD B) else none
section
variable {lA lG lT lB g1 g2 g3 g4 g5 g6 g7 g8 l l' : Addr} {A G T B F D2 Ac Du : List Str} {Tg Nu : List (Str × List Str)} {Ti : List (Str × List Str × List Str)} {Ne : List (Str × List (Str × Bool) × List (Str × Bool))} {W : List (Addr × MO)}
abbrev m12 (lA lG lT lB g1 g2 g3 g4 g5 g6 g7 g8 : Addr) : Mp := [(kDu, g8), (kAc, g7), (kAs, g6), (kFl, g5), (kNu, g4), (kTg, g3), (kTg, g2), (kTg, g1), (kB, lB), (kT, lT), (kG, lG), (kA, lA)]
abbrev w10 (lA lG lT lB g3 g4 g5 g6 g7 g8 : Addr) (A G T B F D2 Ac Du : List Str) (Tg Nu : List (Str × List Str)) : List (Addr × MO) := [(g8, .lst (sD Du)), (g7, .lst (sD Ac)), (g6, .lst (sD D2)), (g5, .lst (sD F)), (g4, .lst (Nu.map rowD)), (g3, .lst (Tg.map rowD)), (lB, .lst (sD B)), (lT, .lst (sD T)), (lG, .lst (sD G)), (lA, .lst (sD A))]
theorem f4_at (s : ∀ x ∈ w10 lA lG lT lB g3 g4 g5 g6 g7 g8 A G T B F D2 Ac Du Tg Nu, x ∈ W) : ∀ nm xs, f4 A G T B nm = some xs → ∃ l, (m12 lA lG lT lB g1 g2 g3 g4 g5 g6 g7 g8).lookup nm = some l ∧ (l, MO.lst xs) ∈ W := by
  intro nm xs e
  unfold f4 at e
  split at e
  · rename_i z; subst z; cases e; exact ⟨lA, rfl, s _ (by simp [w10])⟩
  split at e
  · rename_i z; subst z; cases e; exact ⟨lG, rfl, s _ (by simp [w10])⟩
  split at e
  · rename_i z; subst z; cases e; exact ⟨lT, rfl, s _ (by simp [w10])⟩
  split at e
  · rename_i z; subst z; cases e; exact ⟨lB, rfl, s _ (by simp [w10])⟩
  · cases e
theorem f12_at {m0 : Mp} (s : ∀ x ∈ w10 lA lG lT lB g3 g4 g5 g6 g7 g8 A G T B F D2 Ac Du Tg Nu, x ∈ W) (t : (l, MO.lst (Ti.map tieD)) ∈ W) (n : (l', MO.lst (Ne.map nevD)) ∈ W)
    (h0 : m0 = (kNe, l') :: (kTi, l) :: m12 lA lG lT lB g1 g2 g3 g4 g5 g6 g7 g8 ∨ ∃ l0, m0 = (kNe, l') :: (kNe, l0) :: (kTi, l) :: m12 lA lG lT lB g1 g2 g3 g4 g5 g6 g7 g8) :
    ∀ nm xs, fieldOf ⟨A, G, T, B, Tg, Nu, F, D2, Ac, Du, Ti, Ne⟩ nm = some xs → ∃ l, m0.lookup nm = some l ∧ (l, MO.lst xs) ∈ W := by
  intro nm xs e
  unfold fieldOf at e
  have key : ∀ k l1, nm = k → (((kNe, l') :: (kTi, l) :: m12 lA lG lT lB g1 g2 g3 g4 g5 g6 g7 g8).lookup k = some l1) → (∀ l0, ((kNe, l') :: (kNe, l0) :: (kTi, l) :: m12 lA lG lT lB g1 g2 g3 g4 g5 g6 g7 g8).lookup k = some l1) → (l1, MO.lst xs) ∈ W → ∃ l, m0.lookup nm = some l ∧ (l, MO.lst xs) ∈ W := by
    intro k l1 e1 e2 e3 e4
    subst e1
    rcases h0 with rfl | ⟨l0, rfl⟩
    · exact ⟨l1, e2, e4⟩
    · exact ⟨l1, e3 l0, e4⟩
  by_cases z : nm = Str.ofString "asker"
  · rw [if_pos z] at e; cases e; exact key _ lA z rfl (fun _ => rfl) (s _ (by simp [w10]))
  rw [if_neg z] at e
  by_cases z : nm = Str.ofString "group"
  · rw [if_pos z] at e; cases e; exact key _ lG z rfl (fun _ => rfl) (s _ (by simp [w10]))
  rw [if_neg z] at e
  by_cases z : nm = Str.ofString "thing"
  · rw [if_pos z] at e; cases e; exact key _ lT z rfl (fun _ => rfl) (s _ (by simp [w10]))
  rw [if_neg z] at e
  by_cases z : nm = Str.ofString "badge"
  · rw [if_pos z] at e; cases e; exact key _ lB z rfl (fun _ => rfl) (s _ (by simp [w10]))
  rw [if_neg z] at e
  by_cases z : nm = Str.ofString "tags"
  · rw [if_pos z] at e; cases e; exact key _ g3 z rfl (fun _ => rfl) (s _ (by simp [w10]))
  rw [if_neg z] at e
  by_cases z : nm = Str.ofString "numbers"
  · rw [if_pos z] at e; cases e; exact key _ g4 z rfl (fun _ => rfl) (s _ (by simp [w10]))
  rw [if_neg z] at e
  by_cases z : nm = Str.ofString "flag"
  · rw [if_pos z] at e; cases e; exact key _ g5 z rfl (fun _ => rfl) (s _ (by simp [w10]))
  rw [if_neg z] at e
  by_cases z : nm = Str.ofString "asked"
  · rw [if_pos z] at e; cases e; exact key _ g6 z rfl (fun _ => rfl) (s _ (by simp [w10]))
  rw [if_neg z] at e
  by_cases z : nm = Str.ofString "action"
  · rw [if_pos z] at e; cases e; exact key _ g7 z rfl (fun _ => rfl) (s _ (by simp [w10]))
  rw [if_neg z] at e
  by_cases z : nm = Str.ofString "duty"
  · rw [if_pos z] at e; cases e; exact key _ g8 z rfl (fun _ => rfl) (s _ (by simp [w10]))
  rw [if_neg z] at e
  by_cases z : nm = Str.ofString "ties"
  · rw [if_pos z] at e; cases e; exact key _ l z rfl (fun _ => rfl) t
  rw [if_neg z] at e
  by_cases z : nm = Str.ofString "nevers"
  · rw [if_pos z] at e; cases e; exact key _ l' z rfl (fun _ => rfl) n
  rw [if_neg z] at e
  cases e
end
theorem marks_len (v : Pl) : (marksOf v).length ≤ v.tags.length := by
  unfold marksOf
  rw [List.length_map]
  exact List.length_filter_le _ _
theorem plan_e {h hh : MH} {a c pl p : Addr} {cs : List Int} {P A G T B F D2 Ac Du : List Str} {Tg Nu : List (Str × List Str)} {lA lG lT lB g1 g2 g3 g4 g5 g6 g7 g8 : Addr} {x4 x6 : Option D} {rich : Nat} {Q : KD} (pa : pl ≠ a) (pc : pl ≠ c) (hr : rich ≤ 3) (hP : 8 ≤ P.length) (hP2 : P.length ≤ 1000) (gP : ∀ x ∈ P, GN x)
    (lA1 : A.length ≤ 2) (lG1 : G.length ≤ 2) (lT1 : T.length ≤ 2) (lB1 : B.length ≤ 1)
    (ok : ∀ Ti : List (Str × List Str × List Str), 0 < Ti.length → Ti.length ≤ 50 → (∀ t ∈ Ti, TieOk A G T B t) → ∀ Ne : List (Str × List (Str × Bool) × List (Str × Bool)), Ne.length ≤ 50 → (∀ r ∈ Ne, r.2.1.length ≤ 200 ∧ r.2.2.length ≤ 200) → PlOk ⟨A, G, T, B, Tg, Nu, F, D2, Ac, Du, Ti, Ne⟩)
    (S : PSt h a c cs pl P p (m12 lA lG lT lB g1 g2 g3 g4 g5 g6 g7 g8) (w10 lA lG lT lB g3 g4 g5 g6 g7 g8 A G T B F D2 Ac Du Tg Nu) hh)
    (nx : ∀ (v : Pl) (P' : List Str) (h2 : MH), (∀ x ∈ P', x ∈ P) → P'.length ≤ P.length → LV (up h pl (.lst (P'.map D.str))) a c cs h2 [] → PlAt h2 p v (fun b => b = a ∨ b = pl) → Q (.ref p) h2) :
    rd__law_plan_14 sp__law_draw sp__law_pop sp__law_some sp__law_plan_ties sp__law_marks sp__law_plan_tests sp__law_pick (endN Q) [some (.ref a), some (.ref pl), some (.int (rich : Nat)), some (.ref p), x4, none, x6] hh := by
  unfold rd__law_plan_14
  walk_at "e0"
  obtain ⟨kvs, L, d⟩ := S.lv
  refine ⟨a, c, cs, p, f4 A G T B, _, pl, P, A, G, T, B, rich, rfl, L.dr, pa, pc, L.old up_same pa, S.fat (f4_at fun x hx => hx), .inl rfl, .inr rfl, rfl, rfl, rfl, rfl, by omega, by omega, by omega, by omega, by omega, by omega, hP2, gP, fun Ti P1 o q t1 t2 tok mP l1 l2 k nq => ?_⟩
  have L1 := (L.drawn k).base up_same pa pc (.lst (P1.map D.str))
  rw [up_up, up_com pa.symm] at L1
  have qa := L.ne nq
  have qp : q ≠ pl := fun z => by
    have := L.old up_same pa
    rw [← z, nq] at this; cases this
  have L2 := L1.new (p := q) (by rw [up_ne qa, up_ne qp]; exact nq) (.lst (Ti.map tieD))
  generalize up (up (up hh pl (.lst (P1.map D.str))) a o) q (.lst (Ti.map tieD)) = h2 at L2
  have S2 : PSt h a c cs pl P1 p _ _ h2 := ⟨kvs, L2.swap, d⟩
  walk_at "e0"
  refine S2.set (by simp) fun h3 S3 => ?_
  unfold rd__law_plan_15
  walk_at "e0"
  refine ⟨by decide, ?_⟩
  intro nl nnl
  generalize enl : up _ nl _ = h4
  have S4 := S3.newE nnl enl
  walk_at "e0"
  refine S4.set (by simp) fun h5 S5 => ?_
  have P5 : PlAt h5 p ⟨A, G, T, B, Tg, Nu, F, D2, Ac, Du, Ti, []⟩ (fun b => b = a ∨ b = pl) := ⟨ok Ti (by omega) (by omega) tok [] (by simp) (by simp), S5.fat (f12_at (fun x hx => List.mem_cons_of_mem _ (List.mem_cons_of_mem _ hx)) (by simp) (by simp) (.inl rfl))⟩
  unfold rd__law_plan_16
  walk_at "e0"
  refine ⟨p, _, _, rfl, P5, fun ml nml => ?_⟩
  generalize eml : up _ ml _ = h6
  have S6 := S5.newE nml eml
  have mla := S5.L.ne nml
  have lm := marks_len ⟨A, G, T, B, Tg, Nu, F, D2, Ac, Du, Ti, []⟩
  have ltg := (ok Ti (by omega) (by omega) tok [] (by simp) (by simp)).ltg
  have lm2 : (marksOf ⟨A, G, T, B, Tg, Nu, F, D2, Ac, Du, Ti, []⟩).length ≤ 50 := Nat.le_trans lm ltg
  generalize marksOf ⟨A, G, T, B, Tg, Nu, F, D2, Ac, Du, Ti, []⟩ = M at S6 lm2
  unfold rd__law_plan_17
  walk_at "e0"
  rw [S6.get 0 rfl]
  walk_at "e0"
  rw [List.length_map]
  have fin : ∀ (h7 : MH) (x4 x5 x6 : Option D), PSt h a c cs pl P1 p ((kNe, nl) :: (kTi, q) :: m12 lA lG lT lB g1 g2 g3 g4 g5 g6 g7 g8) ((ml, .lst (M.map D.str)) :: (nl, .lst []) :: (q, .lst (Ti.map tieD)) :: w10 lA lG lT lB g3 g4 g5 g6 g7 g8 A G T B F D2 Ac Du Tg Nu) h7 →
      rd__law_plan_18 sp__law_draw sp__law_pop sp__law_some sp__law_plan_ties sp__law_marks sp__law_plan_tests sp__law_pick (endN Q) [some (.ref a), some (.ref pl), some (.int (rich : Nat)), some (.ref p), x4, x5, x6] h7 := by
    intro h7 x4 x5 x6 S7
    unfold rd__law_plan_18
    walk_at "e0"
    refine lh_le le.refl (nx ⟨A, G, T, B, Tg, Nu, F, D2, Ac, Du, Ti, []⟩ P1 h7 mP l2 S7.L.nil ⟨ok Ti (by omega) (by omega) tok [] (by simp) (by simp), S7.fat (f12_at (fun x hx => List.mem_cons_of_mem _ (List.mem_cons_of_mem _ (List.mem_cons_of_mem _ hx))) (by simp) (by simp) (.inl rfl))⟩)
  by_cases c1 : (0 : Int) < (M.length : Int)
  · rw [if_pos (decide_eq_true c1)]
    refine S6.draw (by decide) (by decide) fun r h7 r1 S7 => ?_
    walk_at "e0"
    split
    · refine S7.ix (l := q) rfl ?_
      obtain ⟨kvs7, L7, d7⟩ := S7.lv
      refine L7.pick (L7.get 3 rfl) qa (by rw [ne_eq, List.map_eq_nil_iff]; exact fun z => by rw [z] at t1; simp at t1) (by rw [List.length_map]; omega) fun t ht h8 L8 => ?_
      obtain ⟨t, ht, rfl⟩ := List.mem_map.mp ht
      walk_at "e0"
      rw [tie_0]
      refine ⟨a, c, cs, ml, M, rfl, L8.dr, mla, L8.get 1 rfl, by omega, fun T1 o1 u1 v1 k1 => ?_⟩
      have L9 := L8.drawn k1
      generalize up h8 a o1 = h9 at L9
      refine ⟨a, c, cs, ml, M, rfl, L9.dr, mla, L9.get 1 rfl, by omega, fun T2 o2 u2 v2 k2 => ?_⟩
      have L10 := L9.drawn k2
      generalize up h9 a o2 = h10 at L10
      walk_at "e0"
      refine ⟨by show 3 ≤ sizeLine; decide, by show 1 ≤ sizeLine; decide, ?_⟩
      intro n2 nn2
      generalize en2 : up _ n2 _ = h11
      have L11 := L10.newE nn2 en2
      have S11 : PSt h a c cs pl P1 p _ _ h11 := ⟨kvs7, L11.swap, d7⟩
      walk_at "e0"
      refine S11.set (by simp) fun h12 S12 => ?_
      unfold rd__law_plan_18
      walk_at "e0"
      refine lh_le le.refl (nx ⟨A, G, T, B, Tg, Nu, F, D2, Ac, Du, Ti, [(t.1, T1, T2)]⟩ P1 h12 mP l2 S12.L.nil ⟨ok Ti (by omega) (by omega) tok _ (by simp) (fun r hr => by
        rw [List.mem_singleton.mp hr]; exact ⟨by show T1.length ≤ 200; omega, by show T2.length ≤ 200; omega⟩), S12.fat (f12_at (l' := n2) (fun x hx => List.mem_cons_of_mem _ (List.mem_cons_of_mem _ (List.mem_cons_of_mem _ (List.mem_cons_of_mem _ hx)))) (by simp) (List.mem_cons.mpr (.inl rfl)) (.inr ⟨nl, rfl⟩))⟩)
    · rw [e_next]
      exact fin _ x4 (some (.ref ml)) x6 S7
  · rw [if_neg (by rw [decide_eq_true_eq]; exact c1), e_next]
    exact fin _ x4 (some (.ref ml)) x6 S6
theorem sat__law_plan : ∀ ds h Q, sp__law_plan ds h Q → rd__law_plan sp__law_draw sp__law_pop sp__law_some sp__law_plan_ties sp__law_marks sp__law_plan_tests sp__law_pick (endN Q) (startD 7 ds) h := by
  rintro ds h Q ⟨a, c, cs, pl, P, rich, rfl, d, pa, pc, ep, hr, hP, hP2, ndP, gP, q⟩
  have L0 := (LV.start d).cast (up_id ep).symm rfl
  show rd__law_plan sp__law_draw sp__law_pop sp__law_some sp__law_plan_ties sp__law_marks sp__law_plan_tests sp__law_pick (endN Q) [some (.ref a), some (.ref pl), some (.int (rich : Nat)), none, none, none, none] h
  unfold rd__law_plan
  walk_at "e0"
  intro p np
  generalize eph : up _ p _ = h1
  have L1 := L0.newE np eph
  have S1 : PSt h a c cs pl P p [] [] h1 := ⟨[], L1, DSt.nil, by simp, by simp⟩
  refine plan_a (Q := Q) S1 pa pc hr hP hP2 fun A G T B P1 lA lG lT lB h2 a5 p1 p2 S2 => ?_
  refine plan_b (Q := Q) pa pc hr (by omega) (by omega) a5.lg.2 a5.la.2 a5.lt.2 S2 fun Tg P2 l1 l2 l3 le x6 h3 tg tgo s2 p3 p4 S3 => ?_
  refine plan_c (Q := Q) (l1 := l1) (G := G) (B := B) pa pc hr (by omega) (by omega) a5.la.2 a5.lt.2 tg (by simp) rfl S3 fun Nu P3 l4 l5 h4 nu nuo s3 p5 p6 S4 => ?_
  refine plan_d (Q := Q) pa pc hr (by omega) (by omega) (by simp) S4 fun F D2 Ac Du P4 l6 l7 l8 l9 h5 a6 p7 p8 S5 => ?_
  have s4 : ∀ x ∈ P4, x ∈ P := fun x hx => a5.sub x (s2 x (s3 x (a6.sub x hx)))
  have lb := a5.lb
  have la := a5.la
  have lg := a5.lg
  have lt := a5.lt
  have ltk : (Tg.take 4).length ≤ 4 := by rw [List.length_take]; omega
  refine plan_e pa pc hr (by omega) (by omega) (fun x hx => gP x (s4 x hx)) la.2 lg.2 lt.2 lb (fun Ti t1 t2 t3 Ne e1 e2 => ?_) S5 fun v P5 h6 s5 p9 L6 V => q v P5 p h6 (fun x hx => s4 x (s5 x hx)) (by omega) L6 V
  have tgm : ∀ r ∈ Tg.take 4, r ∈ Tg := fun r hr => List.mem_of_mem_take hr
  exact {
    la := by show A.length ≤ 50; omega, lg := by show G.length ≤ 50; omega, lt := by show T.length ≤ 50; omega, lb := by show B.length ≤ 50; omega,
    ltg := by show (Tg.take 4).length ≤ 50; omega, ltg2 := fun r hr => (tgo r (tgm r hr)).2,
    lnu := by show Nu.length ≤ 50; omega, lnu2 := fun r hr => by rw [(nuo r hr).2, List.length_append]; omega,
    lti := t2, lti2 := fun r hr => ⟨(t3 r hr).lf, (t3 r hr).le⟩, lne := e1, lne2 := e2,
    ga := fun x hx => gP x (a5.ma x hx), gg := fun x hx => gP x (a5.mg x hx), gt := fun x hx => gP x (a5.mt x hx), gb := fun x hx => gP x (a5.mb x hx),
    gtg := fun r hr => gP _ (a5.sub _ (tgo r (tgm r hr)).1), gnu := fun r hr => gP _ (a5.sub _ (s2 _ (nuo r hr).1)), gti := fun r hr => (t3 r hr).n,
    dis := a5.dis ndP, na := la.1, ng := lg.1, nt := lt.1, nti := t1 }
end DL
namespace DL
open PySem PySem.Spec PyProof.Rows L2
local macro_rules | `(tactic| walk_at "ev") => `(tactic| try simp only [e_seq, e_next, e_brk, e_cnt, e_drop, e_ret, e_retN, e_ifS, e_asg, e_gN, e_gSb, e_gTp, e_gCn, e_gNl, e_var, e_varK, e_nth0, e_nthS, e_put0, e_putS, e_c, e_op, e_un, e_call, e_nil, e_cons, e_tup, e_lst, e_test, e_asB, e_tru, e_andT, e_orT, e_notT, e_andV, e_orV, e_notV, e_if, e_aug, e_augS, e_sl, e_part, e_partK, e_noPart, e_bm0, e_bm, e_join, e_yes, e_wipe0, e_wipeS, e_lc, e_for, v_add, v_addS, v_addT, v_iadd, v_sub, v_mul, v_fdiv, v_mod, v_pow, v_shl, v_shr, v_neg, v_lt, v_le, v_gt, v_ge, v_eqI, v_neI, v_eqS, v_neS, v_inS, v_ninS, v_inT, v_ninT, v_inR, v_ninR, v_inSeq, v_seqO, v_seqR, v_seqT, v_seqL, v_ixR, v_ixT, v_ixL, v_ixS, v_atK, v_atSK, v_get, v_getL, v_getK, v_set, v_setL, v_setK, v_on1, v_on2, v_lenR, v_lenT, v_lenL, v_lenS, v_seqK, v_tuple, v_list, v_abs, v_intI, v_intB, v_okL, v_isLst, v_app, v_lstK, v_slS, v_slT, v_join, v_is, v_isnot, v_max, v_min, v_iSeq, v_srcT, v_srcL, v_srcS, v_srcR, v_srcO, v_iRg1, v_rg1, v_truN, v_truB, v_truI, v_truS, v_truR, v_truT, v_truRol, v_truL, v_inRol, v_ninRol, v_inO, v_inOd, v_inDic, v_ixO, v_ixOd, v_ixSeq, v_ixDic, v_dgetK, v_ixStr, v_getO, v_getOd, v_setO, v_setOd, v_setDic, v_lenO, v_lenOd, e_dic0, e_disp, e_pairs0, e_pairsS, e_chain, v_bits, v_iRg3, v_rg3, v_iRg2, v_rg2, v_iEn, v_enT, v_enR, v_enO, v_iZp, v_zpT, v_zpR, v_zpO, v_repr, v_strI, v_strS, v_addR, v_and, v_slR, v_slL, v_ltS, v_srtT, v_srtR, v_srtO, v_srtD, v_revR, v_eqIS, v_neIS, v_eqB, v_neB])
local macro_rules | `(tactic| walk_at "e0") => `(tactic| try simp only [e_seq, e_brk, e_cnt, e_drop, e_ret, e_retN, e_ifS, e_asg, e_gN, e_gSb, e_gTp, e_gCn, e_gNl, e_var, e_varK, e_nth0, e_nthS, e_put0, e_putS, e_c, e_op, e_un, e_call, e_nil, e_cons, e_tup, e_lst, e_test, e_asB, e_tru, e_andT, e_orT, e_notT, e_andV, e_orV, e_notV, e_if, e_aug, e_augS, e_sl, e_part, e_partK, e_noPart, e_bm0, e_bm, e_join, e_yes, e_wipe0, e_wipeS, e_lc, e_for, v_add, v_addS, v_addT, v_iadd, v_sub, v_mul, v_fdiv, v_mod, v_pow, v_shl, v_shr, v_neg, v_lt, v_le, v_gt, v_ge, v_eqI, v_neI, v_eqS, v_neS, v_inS, v_ninS, v_inT, v_ninT, v_inR, v_ninR, v_inSeq, v_seqO, v_seqR, v_seqT, v_seqL, v_ixR, v_ixT, v_ixL, v_ixS, v_atK, v_atSK, v_get, v_getL, v_getK, v_set, v_setL, v_setK, v_on1, v_on2, v_lenR, v_lenT, v_lenL, v_lenS, v_seqK, v_tuple, v_list, v_abs, v_intI, v_intB, v_okL, v_isLst, v_app, v_lstK, v_slS, v_slT, v_join, v_is, v_isnot, v_max, v_min, v_iSeq, v_srcT, v_srcL, v_srcS, v_srcR, v_srcO, v_iRg1, v_rg1, v_truN, v_truB, v_truI, v_truS, v_truR, v_truT, v_truRol, v_truL, v_inRol, v_ninRol, v_inO, v_inOd, v_inDic, v_ixO, v_ixOd, v_ixSeq, v_ixDic, v_dgetK, v_ixStr, v_getO, v_getOd, v_setO, v_setOd, v_setDic, v_lenO, v_lenOd, e_dic0, e_disp, e_pairs0, e_pairsS, e_chain, v_bits, v_iRg3, v_rg3, v_iRg2, v_rg2, v_iEn, v_enT, v_enR, v_enO, v_iZp, v_zpT, v_zpR, v_zpO, v_repr, v_strI, v_strS, v_addR, v_and, v_slR, v_slL, v_ltS, v_srtT, v_srtR, v_srtO, v_srtD, v_revR, v_revT, v_isB, v_iZs, v_zsT, v_eqIS, v_neIS, v_eqB, v_neB])
/-! worlds -/
def nodD (n : Str × Str × List Str) : D := .tup [.str n.1, .str n.2.1, tsD n.2.2]
def lnkD (n : Str × Str × Str) : D := .tup [.str n.1, .str n.2.1, .str n.2.2]
def kdD (n : Str × List Str) : D := .tup [.str n.1, tsD n.2]
theorem ne_bb {h : MH} {Q : KD} {x y : Bool} : neD (.bool x) (.bool y) h Q = Q (.bool (x != y)) h := by
  cases x <;> cases y <;> rfl
theorem src_tests {T : List (Str × Bool)} {h : MH} {R : List D → (MH → Prop) → MH → Prop} : srcD (testsD T) h R = R (T.map testD) (fun _ => True) h := rfl
def sp__law_passes : P1 := fun ds h Q => ∃ (T : List (Str × Bool)) (M : List Str), ds = [testsD T, tsD M] ∧ ∀ b, Q (.bool b) h
theorem len__law_passes : ∀ ds h Q, sp__law_passes ds h Q → ds.length = 2 := fun ds h Q ⟨_, _, e, _⟩ => by rw [e]; rfl
theorem sat__law_passes : ∀ ds h Q, sp__law_passes ds h Q → rd__law_passes (endN Q) (startD 4 ds) h := by
  rintro ds h Q ⟨T, M, rfl, q⟩
  show rd__law_passes (endN Q) [some (testsD T), some (tsD M), none, none] h
  unfold rd__law_passes
  walk_at "e0"
  rw [src_tests]
  refine ⟨fun i σ hh => ∃ x2 x3, hh = h ∧ σ = [some (testsD T), some (tsD M), x2, x3], Lw.of ⟨_, _, rfl, rfl⟩, fun _ _ _ _ => trivial, ?_, ?_⟩
  · rintro i x σ hh hx ⟨x2, x3, rfl, rfl⟩
    rw [List.getElem?_map] at hx
    obtain ⟨t, ht, rfl⟩ := Option.map_eq_some_iff.mp hx
    unfold testD
    walk_at "e0"
    unfold rd__law_passes_b1
    walk_at "e0"
    refine ⟨rfl, ?_⟩
    rw [in_ts, ne_bb]
    walk_at "e0"
    split
    · exact lh_le le.refl (q false)
    · rw [e_next]
      exact Lw.of ⟨_, _, rfl, rfl⟩
  · rintro σ hh ⟨x2, x3, rfl, rfl⟩
    unfold rd__law_passes_1
    walk_at "e0"
    exact lh_le le.refl (q true)
/-- kinds, told by a dict at k -/
structure KAt (h : MH) (k : Addr) (f : Str → Option (Str × List Str)) : Prop where
  ex : ∃ kvs, h k = some (.dic kvs) ∧ DSt kvs fun x => (f x).map kdD
def kindsOf : List (Str × Str × List Str) → Str → Option (Str × List Str)
  | [], _ => none
  | n :: r, x => match kindsOf r x with
    | some y => some y
    | none => if x = n.1 then some n.2 else none
theorem kindsOf_app (N : List (Str × Str × List Str)) (n : Str × Str × List Str) (x : Str) : kindsOf (N ++ [n]) x = if x = n.1 then some n.2 else kindsOf N x := by
  induction N with
  | nil => simp [kindsOf]
  | cons m r ih =>
    rw [List.cons_append]
    unfold kindsOf
    rw [ih]
    by_cases e : x = n.1
    · rw [if_pos e, if_pos e]
    · rw [if_neg e, if_neg e]
theorem kindsOf_mem {N : List (Str × Str × List Str)} {x : Str} {y : Str × List Str} (e : kindsOf N x = some y) : (x, y) ∈ N := by
  induction N with
  | nil => simp [kindsOf] at e
  | cons m r ih =>
    unfold kindsOf at e
    split at e
    · rename_i z; rw [← e] at ih; exact List.mem_cons_of_mem _ (ih z)
    · split at e
      · rename_i z; cases e; subst z; exact List.mem_cons.mpr (.inl rfl)
      · cases e
theorem kindsOf_some {N : List (Str × Str × List Str)} {n : Str × Str × List Str} (m : n ∈ N) : ∃ y, kindsOf N n.1 = some y := by
  induction N with
  | nil => cases m
  | cons k r ih =>
    unfold kindsOf
    split
    · exact ⟨_, rfl⟩
    · rename_i z
      rcases List.mem_cons.mp m with rfl | m
      · exact ⟨n.2, if_pos rfl⟩
      · obtain ⟨y, e⟩ := ih m
        rw [z] at e; cases e
def nodsD (N : List (Str × Str × List Str)) : D := .tup (N.map nodD)
theorem src_nods {N : List (Str × Str × List Str)} {h : MH} {R : List D → (MH → Prop) → MH → Prop} : srcD (nodsD N) h R = R (N.map nodD) (fun _ => True) h := rfl
def sp__law_kinds : P1 := fun ds h Q => ∃ (N : List (Str × Str × List Str)), ds = [nodsD N] ∧ N.length ≤ 1000 ∧ ∀ p kvs, h p = none → DSt kvs (fun x => (kindsOf N x).map kdD) → Q (.ref p) (up h p (.dic kvs))
theorem len__law_kinds : ∀ ds h Q, sp__law_kinds ds h Q → ds.length = 1 := fun ds h Q ⟨_, e, _⟩ => by rw [e]; rfl
theorem sat__law_kinds : ∀ ds h Q, sp__law_kinds ds h Q → rd__law_kinds (endN Q) (startD 5 ds) h := by
  rintro ds h Q ⟨N, rfl, hN, q⟩
  show rd__law_kinds (endN Q) [some (nodsD N), none, none, none, none] h
  unfold rd__law_kinds
  walk_at "e0"
  intro p np
  unfold rd__law_kinds_1
  walk_at "e0"
  rw [src_nods]
  refine ⟨fun i σ hh => ∃ kvs x2 x3 x4, hh = up h p (.dic kvs) ∧ DSt kvs (fun x => (kindsOf (N.take i) x).map kdD) ∧ kvs.length ≤ i ∧ σ = [some (nodsD N), some (.ref p), x2, x3, x4], Lw.of ⟨[], _, _, _, rfl, DSt.nil, Nat.le_refl _, rfl⟩, fun _ _ _ _ => trivial, ?_, ?_⟩
  · rintro i x σ hh hx ⟨kvs, x2, x3, x4, rfl, d, hl, rfl⟩
    rw [List.getElem?_map] at hx
    obtain ⟨n, hn, rfl⟩ := Option.map_eq_some_iff.mp hx
    obtain ⟨hi, en⟩ := List.getElem?_eq_some_iff.mp hn
    unfold nodD
    walk_at "e0"
    unfold rd__law_kinds_b1
    walk_at "e0"
    have hl2 := dset_len kvs (.str n.1) (.tup [.str n.2.1, tsD n.2.2])
    refine ⟨rfl, by show 2 ≤ sizeLine; decide, ?_⟩
    rw [up_same, v_setOd, v_setDic]
    refine ⟨d.fit n.1, sl_lt (by omega), ?_⟩
    rw [up_up]
    refine Lw.of ⟨_, _, _, _, rfl, (d.put n.1 (kdD n.2)).to fun x => ?_, by omega, rfl⟩
    rw [List.take_succ_eq_append_getElem hi, en, kindsOf_app]
    unfold fup
    by_cases e : x = n.1
    · rw [if_pos e, if_pos e]; rfl
    · rw [if_neg e, if_neg e]
  · rintro σ hh ⟨kvs, x2, x3, x4, rfl, d, hl, rfl⟩
    rw [List.length_map, List.take_length] at d
    unfold rd__law_kinds_2
    walk_at "e0"
    exact lh_le le.refl (q p kvs np d)
end DL
namespace DL
open PySem PySem.Spec PyProof.Rows L2
local macro_rules | `(tactic| walk_at "ev") => `(tactic| try simp only [e_seq, e_next, e_brk, e_cnt, e_drop, e_ret, e_retN, e_ifS, e_asg, e_gN, e_gSb, e_gTp, e_gCn, e_gNl, e_var, e_varK, e_nth0, e_nthS, e_put0, e_putS, e_c, e_op, e_un, e_call, e_nil, e_cons, e_tup, e_lst, e_test, e_asB, e_tru, e_andT, e_orT, e_notT, e_andV, e_orV, e_notV, e_if, e_aug, e_augS, e_sl, e_part, e_partK, e_noPart, e_bm0, e_bm, e_join, e_yes, e_wipe0, e_wipeS, e_lc, e_for, v_add, v_addS, v_addT, v_iadd, v_sub, v_mul, v_fdiv, v_mod, v_pow, v_shl, v_shr, v_neg, v_lt, v_le, v_gt, v_ge, v_eqI, v_neI, v_eqS, v_neS, v_inS, v_ninS, v_inT, v_ninT, v_inR, v_ninR, v_inSeq, v_seqO, v_seqR, v_seqT, v_seqL, v_ixR, v_ixT, v_ixL, v_ixS, v_atK, v_atSK, v_get, v_getL, v_getK, v_set, v_setL, v_setK, v_on1, v_on2, v_lenR, v_lenT, v_lenL, v_lenS, v_seqK, v_tuple, v_list, v_abs, v_intI, v_intB, v_okL, v_isLst, v_app, v_lstK, v_slS, v_slT, v_join, v_is, v_isnot, v_max, v_min, v_iSeq, v_srcT, v_srcL, v_srcS, v_srcR, v_srcO, v_iRg1, v_rg1, v_truN, v_truB, v_truI, v_truS, v_truR, v_truT, v_truRol, v_truL, v_inRol, v_ninRol, v_inO, v_inOd, v_inDic, v_ixO, v_ixOd, v_ixSeq, v_ixDic, v_dgetK, v_ixStr, v_getO, v_getOd, v_setO, v_setOd, v_setDic, v_lenO, v_lenOd, e_dic0, e_disp, e_pairs0, e_pairsS, e_chain, v_bits, v_iRg3, v_rg3, v_iRg2, v_rg2, v_iEn, v_enT, v_enR, v_enO, v_iZp, v_zpT, v_zpR, v_zpO, v_repr, v_strI, v_strS, v_addR, v_and, v_slR, v_slL, v_ltS, v_srtT, v_srtR, v_srtO, v_srtD, v_revR, v_eqIS, v_neIS, v_eqB, v_neB])
local macro_rules | `(tactic| walk_at "e0") => `(tactic| try simp only [e_seq, e_brk, e_cnt, e_drop, e_ret, e_retN, e_ifS, e_asg, e_gN, e_gSb, e_gTp, e_gCn, e_gNl, e_var, e_varK, e_nth0, e_nthS, e_put0, e_putS, e_c, e_op, e_un, e_call, e_nil, e_cons, e_tup, e_lst, e_test, e_asB, e_tru, e_andT, e_orT, e_notT, e_andV, e_orV, e_notV, e_if, e_aug, e_augS, e_sl, e_part, e_partK, e_noPart, e_bm0, e_bm, e_join, e_yes, e_wipe0, e_wipeS, e_lc, e_for, v_add, v_addS, v_addT, v_iadd, v_sub, v_mul, v_fdiv, v_mod, v_pow, v_shl, v_shr, v_neg, v_lt, v_le, v_gt, v_ge, v_eqI, v_neI, v_eqS, v_neS, v_inS, v_ninS, v_inT, v_ninT, v_inR, v_ninR, v_inSeq, v_seqO, v_seqR, v_seqT, v_seqL, v_ixR, v_ixT, v_ixL, v_ixS, v_atK, v_atSK, v_get, v_getL, v_getK, v_set, v_setL, v_setK, v_on1, v_on2, v_lenR, v_lenT, v_lenL, v_lenS, v_seqK, v_tuple, v_list, v_abs, v_intI, v_intB, v_okL, v_isLst, v_app, v_lstK, v_slS, v_slT, v_join, v_is, v_isnot, v_max, v_min, v_iSeq, v_srcT, v_srcL, v_srcS, v_srcR, v_srcO, v_iRg1, v_rg1, v_truN, v_truB, v_truI, v_truS, v_truR, v_truT, v_truRol, v_truL, v_inRol, v_ninRol, v_inO, v_inOd, v_inDic, v_ixO, v_ixOd, v_ixSeq, v_ixDic, v_dgetK, v_ixStr, v_getO, v_getOd, v_setO, v_setOd, v_setDic, v_lenO, v_lenOd, e_dic0, e_disp, e_pairs0, e_pairsS, e_chain, v_bits, v_iRg3, v_rg3, v_iRg2, v_rg2, v_iEn, v_enT, v_enR, v_enO, v_iZp, v_zpT, v_zpR, v_zpO, v_repr, v_strI, v_strS, v_addR, v_and, v_slR, v_slL, v_ltS, v_srtT, v_srtR, v_srtO, v_srtD, v_revR, v_revT, v_isB, v_iZs, v_zsT, v_eqIS, v_neIS, v_eqB, v_neB])
def sp__law_standing : P1 := fun ds h Q => ∃ (p k : Addr) (v : Pl) (X : Addr → Prop) (f : Str → Option (Str × List Str)) (x : Str) (kd : Str × List Str), ds = [.ref p, .ref k, .str x] ∧ PlAt h p v X ∧ KAt h k f ∧ f x = some kd ∧ ∀ t : List Str, (t = kd.2 ∨ t = []) → Q (kdD (kd.1, t)) h
theorem len__law_standing : ∀ ds h Q, sp__law_standing ds h Q → ds.length = 3 := fun ds h Q ⟨_, _, _, _, _, _, _, e, _⟩ => by rw [e]; rfl
theorem KAt.ix {h : MH} {k : Addr} {f : Str → Option (Str × List Str)} (K : KAt h k f) {x : Str} {kd : Str × List Str} (e : f x = some kd) {Q : KD} (q : Q (kdD kd) h) : ixO (.str x) h Q (h k) := by
  obtain ⟨kvs, ek, d⟩ := K.ex
  rw [ek, v_ixOd, v_ixDic, d.get x, e]
  exact ⟨d.fit x, q⟩
theorem KAt.has {h : MH} {k : Addr} {f : Str → Option (Str × List Str)} (K : KAt h k f) {x : Str} {P : Bool → Prop} (q : P (f x).isSome) : inO (.str x) P (h k) := by
  obtain ⟨kvs, ek, d⟩ := K.ex
  rw [ek, v_inOd, v_inDic, d.get x]
  refine ⟨d.fit x, ?_⟩
  cases e : f x with
  | none => rw [e] at q; exact q
  | some y => rw [e] at q; exact q
theorem sat__law_standing : ∀ ds h Q, sp__law_standing ds h Q → rd__law_standing (endN Q) (startD 5 ds) h := by
  rintro ds h Q ⟨p, k, v, X, f, x, kd, rfl, P, K, e, q⟩
  show rd__law_standing (endN Q) [some (.ref p), some (.ref k), some (.str x), none, none] h
  unfold rd__law_standing
  walk_at "e0"
  refine K.ix e ?_
  unfold kdD
  walk_at "e0"
  refine ⟨rfl, ?_⟩
  unfold rd__law_standing_1
  walk_at "e0"
  refine P.ix f_group fun l el nl => ?_
  rw [v_inR, el]
  unfold sD
  rw [inO_s]
  walk_at "e0"
  split
  · refine ⟨by show 2 ≤ sizeLine; decide, lh_le le.refl (q kd.2 (.inl rfl))⟩
  · refine ⟨by decide, by show 2 ≤ sizeLine; decide, lh_le le.refl (q [] (.inr rfl))⟩
def ltrD (tie e : Str) (t : List Str) : D := .tup [.str tie, .str e, tsD t]
def sp__law_letter : P1 := fun ds h Q => ∃ (p k : Addr) (v : Pl) (X : Addr → Prop) (f : Str → Option (Str × List Str)) (tie x : Str), ds = [.ref p, .ref k, .str tie, .str x] ∧ PlAt h p v X ∧ KAt h k f ∧ (∀ y kd, f y = some kd → kd.2.length ≤ 1000) ∧ ∀ (e : Str) (t : List Str), t.length ≤ 1000 → Q (ltrD tie e t) h
theorem len__law_letter : ∀ ds h Q, sp__law_letter ds h Q → ds.length = 4 := fun ds h Q ⟨_, _, _, _, _, _, _, e, _⟩ => by rw [e]; rfl
theorem sat__law_letter : ∀ ds h Q, sp__law_letter ds h Q → rd__law_letter (endN Q) (startD 6 ds) h := by
  rintro ds h Q ⟨p, k, v, X, f, tie, x, rfl, P, K, fl, q⟩
  show rd__law_letter (endN Q) [some (.ref p), some (.ref k), some (.str tie), some (.str x), none, none] h
  unfold rd__law_letter
  walk_at "e0"
  refine K.has ?_
  walk_at "e0"
  cases e : f x with
  | none =>
    rw [if_pos (by rfl)]
    exact ⟨by decide, by show 3 ≤ sizeLine; decide, lh_le le.refl (q x [] (by simp))⟩
  | some kd =>
    rw [if_neg (by simp), e_next]
    unfold rd__law_letter_1
    walk_at "e0"
    refine K.ix e ?_
    unfold kdD
    walk_at "e0"
    refine ⟨rfl, ?_⟩
    unfold rd__law_letter_2
    walk_at "e0"
    refine P.ix f_group fun l el nl => ?_
    rw [v_inR, el]
    unfold sD
    rw [inO_s]
    walk_at "e0"
    split
    · refine ⟨by show 3 ≤ sizeLine; decide, lh_le le.refl (q kd.1 kd.2 (fl x kd e))⟩
    · refine ⟨by decide, by show 3 ≤ sizeLine; decide, lh_le le.refl (q kd.1 [] (by simp))⟩
theorem pure_ts {n : Nat} {l : List Str} : pure? (n + 1) (tsD l) = true := pures_strs n l
def sp__law_allowed : P1 := fun ds h Q => ∃ (p : Addr) (v : Pl) (X : Addr → Prop) (st : Str × List Str) (tie e : Str) (t : List Str), ds = [.ref p, kdD st, ltrD tie e t] ∧ PlAt h p v X ∧ t.length ≤ 1000 ∧ ∀ b, Q (.bool b) h
theorem len__law_allowed : ∀ ds h Q, sp__law_allowed ds h Q → ds.length = 3 := fun ds h Q ⟨_, _, _, _, _, _, _, e, _⟩ => by rw [e]; rfl
theorem kd_0 {r : Str × List Str} {h : MH} {Q : KD} : ixD (kdD r) (.int 0) h Q = Q (.str r.1) h := rfl
theorem kd_1 {r : Str × List Str} {h : MH} {Q : KD} : ixD (kdD r) (.int 1) h Q = Q (tsD r.2) h := rfl
theorem lt_0 {a b : Str} {t : List Str} {h : MH} {Q : KD} : ixD (ltrD a b t) (.int 0) h Q = Q (.str a) h := rfl
theorem lt_1 {a b : Str} {t : List Str} {h : MH} {Q : KD} : ixD (ltrD a b t) (.int 1) h Q = Q (.str b) h := rfl
theorem lt_2 {a b : Str} {t : List Str} {h : MH} {Q : KD} : ixD (ltrD a b t) (.int 2) h Q = Q (tsD t) h := rfl
theorem ix_z {x : D} {l : List D} {h : MH} {Q : KD} : ixO (.int 0) h Q (some (.lst (x :: l))) = Q x h := by rw [v_ixO, v_ixSeq, atI_z, v_atK]
theorem bls_map {α : Type} (g : α → Bool) : ∀ l : List α, blsOf (l.map fun x => D.bool (g x)) = some (l.map g)
  | [] => rfl
  | x :: r => by
    have := bls_map g r
    simp only [List.map_cons]
    unfold blsOf
    rw [this]; rfl
theorem sat__law_allowed : ∀ ds h Q, sp__law_allowed ds h Q → rd__law_allowed sp__law_tags_of sp__law_passes (endN Q) (startD 9 ds) h := by
  rintro ds h Q ⟨p, v, X, st, tie, e, t, rfl, P, ht, q⟩
  show rd__law_allowed sp__law_tags_of sp__law_passes (endN Q) [some (.ref p), some (kdD st), some (ltrD tie e t), none, none, none, none, none, none] h
  have lti := P.ok.lti
  unfold rd__law_allowed
  walk_at "e0"
  refine P.ix f_ties fun l el nl => ?_
  rw [v_srcR, el]
  walk_at "e0"
  refine lcT_tf v.ties tieD tieD (fun r => decide (r.1 = tie)) rfl (Nat.le_of_lt (sl_lt (by omega))) el (fun r hr Q' R hQ hR => ?_) fun l1 nl1 => ?_
  · walk_at "e0"
    rw [tie_0, lt_0, v_eqS]
    walk_at "e0"
    by_cases z : r.1 = tie
    · rw [decide_eq_true z, if_pos rfl]; exact hQ (decide_eq_true z) _ le.refl
    · rw [decide_eq_false z, if_neg (by decide)]; exact hR (decide_eq_false z) _ le.refl
  have hR : ∀ r ∈ v.ties.filter (fun r => decide (r.1 = tie)), r ∈ v.ties := fun r hr => (List.mem_filter.mp hr).1
  generalize v.ties.filter (fun r => decide (r.1 = tie)) = R at hR
  generalize el2 : up h l1 _ = h2
  have lh2 : DL.le h h2 := el2 ▸ le.up nl1
  have P2 := P.le lh2
  have g1 : h2 l1 = some (.lst (R.map tieD)) := by rw [← el2, up_same]
  have done : ∀ {h3 : MH}, DL.le h h3 → ∀ b, Lh Q (.bool b) h3 := fun l3 b => lh_le l3 (q b)
  unfold rd__law_allowed_1
  walk_at "e0"
  rw [g1]
  walk_at "e0"
  rw [List.length_map]
  have nxt : rd__law_allowed_2 sp__law_tags_of sp__law_passes (endN Q) [some (.ref p), some (kdD st), some (ltrD tie e t), some (.ref l1), none, none, none, none, none] h2 := by
    unfold rd__law_allowed_2
    walk_at "e0"
    rw [lt_1]
    refine P2.ix f_group fun l el nl => ?_
    rw [v_ninR, el]
    unfold sD
    rw [inO_s]
    walk_at "e0"
    split
    · rw [lt_2, eqD_pure pure_ts (by rfl)]
      exact ⟨by decide, done lh2 _⟩
    rw [e_next]
    unfold rd__law_allowed_3
    walk_at "e0"
    rw [lt_2]
    show srcD (.tup (t.map D.str)) _ _
    rw [v_srcT]
    refine lcT_t t D.str (fun x => .bool (decide (x ∈ tagsOf v e))) rfl (Nat.le_of_lt (sl_lt (by omega))) trivial (fun x hx Q' hQ => ?_) fun l3 nl3 => ?_
    · walk_at "e0"
      rw [lt_1]
      refine ⟨p, v, X, e, rfl, P2, fun l4 nl4 => ?_⟩
      show inD _ (.ref l4) _ _
      rw [v_inR, up_same, inO_s]
      exact hQ _ (le.up nl4)
    generalize el3 : up _ l3 _ = h3
    have lh3 : DL.le h2 h3 := el3 ▸ le.up nl3
    have P3 := P2.le lh3
    refine v_all (by rw [← el3, up_same]) (bls_map _ t) ?_
    walk_at "e0"
    split
    · exact done (lh2.trans lh3) _
    rw [e_next]
    unfold rd__law_allowed_4
    walk_at "e0"
    rw [kd_0]
    refine P3.ix f_group fun l el nl => ?_
    rw [v_ninR, el]
    unfold sD
    rw [inO_s]
    walk_at "e0"
    split
    · exact done (lh2.trans lh3) _
    rw [e_next]
    unfold rd__law_allowed_5
    walk_at "e0"
    refine P3.ix f_nevers fun l el nl => ?_
    rw [v_srcR, el]
    walk_at "e0"
    refine ⟨fun i σ hh => ∃ x4 x5 x6, hh = h3 ∧ σ = [some (.ref p), some (kdD st), some (ltrD tie e t), some (.ref l1), x4, x5, x6, none, none], Lw.of ⟨_, _, _, rfl, rfl⟩, fun i σ hh ⟨_, _, _, z, _⟩ => (by show hh l = _; rw [z]; exact el), ?_, ?_⟩
    · rintro i x σ hh hx ⟨x4, x5, x6, rfl, rfl⟩
      rw [List.getElem?_map] at hx
      obtain ⟨n, hn, rfl⟩ := Option.map_eq_some_iff.mp hx
      unfold nevD
      walk_at "e0"
      refine ⟨rfl, ?_⟩
      unfold rd__law_allowed_b1
      walk_at "e0"
      rw [lt_0, v_eqS]
      walk_at "e0"
      have nx : ∀ {σ : Sl}, σ = [some (.ref p), some (kdD st), some (ltrD tie e t), some (.ref l1), some (.str n.1), some (testsD n.2.1), some (testsD n.2.2), none, none] → ∃ x4 x5 x6, hh = hh ∧ σ = [some (.ref p), some (kdD st), some (ltrD tie e t), some (.ref l1), x4, x5, x6, none, none] := fun z => ⟨_, _, _, rfl, z⟩
      by_cases z : n.1 = tie
      · rw [decide_eq_true z, if_pos rfl, kd_1]
        refine ⟨_, _, rfl, fun b => ?_⟩
        walk_at "e0"
        cases b with
        | true =>
          rw [if_pos rfl, lt_2]
          refine ⟨_, _, rfl, fun b => ?_⟩
          walk_at "e0"
          cases b with
          | true => rw [if_pos rfl]; exact done (lh2.trans lh3) _
          | false => rw [if_neg (by decide), e_next]; exact Lw.of (nx rfl)
        | false => rw [if_neg (by decide), e_next]; exact Lw.of (nx rfl)
      · rw [decide_eq_false z, if_neg (by decide), e_next]
        exact Lw.of (nx rfl)
    · rintro σ hh ⟨x4, x5, x6, rfl, rfl⟩
      unfold rd__law_allowed_6
      walk_at "e0"
      exact done (lh2.trans lh3) _
  cases R with
  | nil => rw [if_pos (by rfl), if_pos trivial]; exact done lh2 _
  | cons r0 R' =>
    rw [if_neg (by rw [decide_eq_true_eq, List.length_cons]; omega), kd_0, g1]
    rw [List.map_cons, ix_z, tie_1, nin_ts]
    walk_at "e0"
    split
    · exact done lh2 _
    · rw [lt_1]
      rw [g1, List.map_cons, ix_z, tie_2, nin_ts]
      walk_at "e0"
      split
      · exact done lh2 _
      · rw [e_next]; exact nxt
end DL
namespace DL
open PySem PySem.Spec PyProof.Rows L2
local macro_rules | `(tactic| walk_at "ev") => `(tactic| try simp only [e_seq, e_next, e_brk, e_cnt, e_drop, e_ret, e_retN, e_ifS, e_asg, e_gN, e_gSb, e_gTp, e_gCn, e_gNl, e_var, e_varK, e_nth0, e_nthS, e_put0, e_putS, e_c, e_op, e_un, e_call, e_nil, e_cons, e_tup, e_lst, e_test, e_asB, e_tru, e_andT, e_orT, e_notT, e_andV, e_orV, e_notV, e_if, e_aug, e_augS, e_sl, e_part, e_partK, e_noPart, e_bm0, e_bm, e_join, e_yes, e_wipe0, e_wipeS, e_lc, e_for, v_add, v_addS, v_addT, v_iadd, v_sub, v_mul, v_fdiv, v_mod, v_pow, v_shl, v_shr, v_neg, v_lt, v_le, v_gt, v_ge, v_eqI, v_neI, v_eqS, v_neS, v_inS, v_ninS, v_inT, v_ninT, v_inR, v_ninR, v_inSeq, v_seqO, v_seqR, v_seqT, v_seqL, v_ixR, v_ixT, v_ixL, v_ixS, v_atK, v_atSK, v_get, v_getL, v_getK, v_set, v_setL, v_setK, v_on1, v_on2, v_lenR, v_lenT, v_lenL, v_lenS, v_seqK, v_tuple, v_list, v_abs, v_intI, v_intB, v_okL, v_isLst, v_app, v_lstK, v_slS, v_slT, v_join, v_is, v_isnot, v_max, v_min, v_iSeq, v_srcT, v_srcL, v_srcS, v_srcR, v_srcO, v_iRg1, v_rg1, v_truN, v_truB, v_truI, v_truS, v_truR, v_truT, v_truRol, v_truL, v_inRol, v_ninRol, v_inO, v_inOd, v_inDic, v_ixO, v_ixOd, v_ixSeq, v_ixDic, v_dgetK, v_ixStr, v_getO, v_getOd, v_setO, v_setOd, v_setDic, v_lenO, v_lenOd, e_dic0, e_disp, e_pairs0, e_pairsS, e_chain, v_bits, v_iRg3, v_rg3, v_iRg2, v_rg2, v_iEn, v_enT, v_enR, v_enO, v_iZp, v_zpT, v_zpR, v_zpO, v_repr, v_strI, v_strS, v_addR, v_and, v_slR, v_slL, v_ltS, v_srtT, v_srtR, v_srtO, v_srtD, v_revR, v_eqIS, v_neIS, v_eqB, v_neB])
local macro_rules | `(tactic| walk_at "e0") => `(tactic| try simp only [e_seq, e_brk, e_cnt, e_drop, e_ret, e_retN, e_ifS, e_asg, e_gN, e_gSb, e_gTp, e_gCn, e_gNl, e_var, e_varK, e_nth0, e_nthS, e_put0, e_putS, e_c, e_op, e_un, e_call, e_nil, e_cons, e_tup, e_lst, e_test, e_asB, e_tru, e_andT, e_orT, e_notT, e_andV, e_orV, e_notV, e_if, e_aug, e_augS, e_sl, e_part, e_partK, e_noPart, e_bm0, e_bm, e_join, e_yes, e_wipe0, e_wipeS, e_lc, e_for, v_add, v_addS, v_addT, v_iadd, v_sub, v_mul, v_fdiv, v_mod, v_pow, v_shl, v_shr, v_neg, v_lt, v_le, v_gt, v_ge, v_eqI, v_neI, v_eqS, v_neS, v_inS, v_ninS, v_inT, v_ninT, v_inR, v_ninR, v_inSeq, v_seqO, v_seqR, v_seqT, v_seqL, v_ixR, v_ixT, v_ixL, v_ixS, v_atK, v_atSK, v_get, v_getL, v_getK, v_set, v_setL, v_setK, v_on1, v_on2, v_lenR, v_lenT, v_lenL, v_lenS, v_seqK, v_tuple, v_list, v_abs, v_intI, v_intB, v_okL, v_isLst, v_app, v_lstK, v_slS, v_slT, v_join, v_is, v_isnot, v_max, v_min, v_iSeq, v_srcT, v_srcL, v_srcS, v_srcR, v_srcO, v_iRg1, v_rg1, v_truN, v_truB, v_truI, v_truS, v_truR, v_truT, v_truRol, v_truL, v_inRol, v_ninRol, v_inO, v_inOd, v_inDic, v_ixO, v_ixOd, v_ixSeq, v_ixDic, v_dgetK, v_ixStr, v_getO, v_getOd, v_setO, v_setOd, v_setDic, v_lenO, v_lenOd, e_dic0, e_disp, e_pairs0, e_pairsS, e_chain, v_bits, v_iRg3, v_rg3, v_iRg2, v_rg2, v_iEn, v_enT, v_enR, v_enO, v_iZp, v_zpT, v_zpR, v_zpO, v_repr, v_strI, v_strS, v_addR, v_and, v_slR, v_slL, v_ltS, v_srtT, v_srtR, v_srtO, v_srtD, v_revR, v_revT, v_isB, v_iZs, v_zsT, v_eqIS, v_neIS, v_eqB, v_neB])
theorem srt_rows {α : Type} {f : α → D} {l : List α} {p : Addr} {h : MH} {Q : KD} (e : h p = some (.lst (l.map f))) (hl : l.length ≤ 1000000) (pu : ∀ x ∈ l, pure? 50 (f x) = true) (al : ∀ x y, PySem.W.alike (pd (f x)) (pd (f y)) = true) (st : ∀ x, isTup1 (f x) = true)
    (q : ∀ (m : List α) p', m.length = l.length → (∀ x ∈ m, x ∈ l) → (∀ x ∈ l, ∃ y ∈ m, f y = f x) → h p' = none → Q (.ref p') (up h p' (.lst (m.map f)))) : sortedD (.ref p) h Q := by
  rw [v_srtR, e, v_srtO]
  refine ⟨pures_of fun x hx => ?_, ?_, ?_, by rw [List.length_map]; exact Nat.le_of_lt (sl_lt hl), fun ys p' hp hs np => ?_⟩
  · obtain ⟨y, hy, rfl⟩ := List.mem_map.mp hx
    exact pu y hy
  · unfold alikeB
    rw [List.all_eq_true]
    intro x hx
    rw [List.all_eq_true]
    intro y hy
    obtain ⟨x, _, rfl⟩ := List.mem_map.mp hx
    obtain ⟨y, _, rfl⟩ := List.mem_map.mp hy
    exact al x y
  · unfold sortsB
    rw [Bool.or_eq_true]
    refine .inl ?_
    rw [List.all_eq_true]
    intro x hx
    obtain ⟨x, _, rfl⟩ := List.mem_map.mp hx
    exact st x
  · obtain ⟨m, rfl, hm⟩ := map_pre fun y hy => hp.subset hy
    have hl := hp.length_eq
    rw [List.length_map, List.length_map] at hl
    refine q m p' hl hm (fun x hx => ?_) np
    obtain ⟨y, hy, e⟩ := List.mem_map.mp (hp.symm.subset (List.mem_map_of_mem hx))
    exact ⟨y, hy, e⟩
theorem alikeAll_strs : ∀ (a b : List Str), PySem.W.alikeAll (pds (a.map D.str)) (pds (b.map D.str)) = true
  | [], _ => by simp [pds, PySem.W.alikeAll]
  | _ :: _, [] => by simp [pds, PySem.W.alikeAll]
  | x :: a, y :: b => by
    have := alikeAll_strs a b
    simp only [List.map_cons, pds, PySem.W.alikeAll, pd, PySem.W.alike, this]; rfl
theorem alike_nod (x y : Str × Str × List Str) : PySem.W.alike (pd (nodD x)) (pd (nodD y)) = true := by
  have := alikeAll_strs x.2.2 y.2.2
  unfold nodD tsD
  simp only [pd, pds, PySem.W.alike, PySem.W.alikeAll, this]; rfl
theorem alike_lnk (x y : Str × Str × Str) : PySem.W.alike (pd (lnkD x)) (pd (lnkD y)) = true := by
  unfold lnkD
  simp only [pd, pds, PySem.W.alike, PySem.W.alikeAll]; rfl
def numD (n : Str × Str × Int) : D := .tup [.str n.1, .str n.2.1, .int n.2.2]
theorem alike_num (x y : Str × Str × Int) : PySem.W.alike (pd (numD x)) (pd (numD y)) = true := by
  unfold numD
  simp only [pd, pds, PySem.W.alike, PySem.W.alikeAll]; rfl
theorem pure_nod {n : Nat} (x : Str × Str × List Str) : pure? (n + 3) (nodD x) = true := by
  have := pures_strs (n + 1) x.2.2
  unfold nodD tsD
  simp [pure?, pures?, this]
theorem pure_lnk {n : Nat} (x : Str × Str × Str) : pure? (n + 2) (lnkD x) = true := by simp [lnkD, pure?, pures?]
theorem pure_num {n : Nat} (x : Str × Str × Int) : pure? (n + 2) (numD x) = true := by simp [numD, pure?, pures?]
structure NdOk (n : Str × Str × List Str) : Prop where
  a : GN n.1
  k : GN n.2.1
  l : n.2.2.length ≤ 50
  t : ∀ x ∈ n.2.2, GN x
theorem tagsOf_mem {v : Pl} {k x : Str} (h : x ∈ tagsOf v k) : ∃ r ∈ v.tags, r.1 = x := by
  unfold tagsOf at h
  have := (sortS_perm _).subset h
  obtain ⟨r, hr, e⟩ := List.mem_map.mp this
  exact ⟨r, (List.mem_filter.mp hr).1, e⟩
theorem tagsOf_len (v : Pl) (k : Str) : (tagsOf v k).length ≤ v.tags.length := by
  unfold tagsOf
  rw [(sortS_perm _).length_eq, List.length_map]
  exact List.length_filter_le _ _
end DL
namespace DL
open PySem PySem.Spec PyProof.Rows L2
local macro_rules | `(tactic| walk_at "ev") => `(tactic| try simp only [e_seq, e_next, e_brk, e_cnt, e_drop, e_ret, e_retN, e_ifS, e_asg, e_gN, e_gSb, e_gTp, e_gCn, e_gNl, e_var, e_varK, e_nth0, e_nthS, e_put0, e_putS, e_c, e_op, e_un, e_call, e_nil, e_cons, e_tup, e_lst, e_test, e_asB, e_tru, e_andT, e_orT, e_notT, e_andV, e_orV, e_notV, e_if, e_aug, e_augS, e_sl, e_part, e_partK, e_noPart, e_bm0, e_bm, e_join, e_yes, e_wipe0, e_wipeS, e_lc, e_for, v_add, v_addS, v_addT, v_iadd, v_sub, v_mul, v_fdiv, v_mod, v_pow, v_shl, v_shr, v_neg, v_lt, v_le, v_gt, v_ge, v_eqI, v_neI, v_eqS, v_neS, v_inS, v_ninS, v_inT, v_ninT, v_inR, v_ninR, v_inSeq, v_seqO, v_seqR, v_seqT, v_seqL, v_ixR, v_ixT, v_ixL, v_ixS, v_atK, v_atSK, v_get, v_getL, v_getK, v_set, v_setL, v_setK, v_on1, v_on2, v_lenR, v_lenT, v_lenL, v_lenS, v_seqK, v_tuple, v_list, v_abs, v_intI, v_intB, v_okL, v_isLst, v_app, v_lstK, v_slS, v_slT, v_join, v_is, v_isnot, v_max, v_min, v_iSeq, v_srcT, v_srcL, v_srcS, v_srcR, v_srcO, v_iRg1, v_rg1, v_truN, v_truB, v_truI, v_truS, v_truR, v_truT, v_truRol, v_truL, v_inRol, v_ninRol, v_inO, v_inOd, v_inDic, v_ixO, v_ixOd, v_ixSeq, v_ixDic, v_dgetK, v_ixStr, v_getO, v_getOd, v_setO, v_setOd, v_setDic, v_lenO, v_lenOd, e_dic0, e_disp, e_pairs0, e_pairsS, e_chain, v_bits, v_iRg3, v_rg3, v_iRg2, v_rg2, v_iEn, v_enT, v_enR, v_enO, v_iZp, v_zpT, v_zpR, v_zpO, v_repr, v_strI, v_strS, v_addR, v_and, v_slR, v_slL, v_ltS, v_srtT, v_srtR, v_srtO, v_srtD, v_revR, v_eqIS, v_neIS, v_eqB, v_neB])
local macro_rules | `(tactic| walk_at "e0") => `(tactic| try simp only [e_seq, e_brk, e_cnt, e_drop, e_ret, e_retN, e_ifS, e_asg, e_gN, e_gSb, e_gTp, e_gCn, e_gNl, e_var, e_varK, e_nth0, e_nthS, e_put0, e_putS, e_c, e_op, e_un, e_call, e_nil, e_cons, e_tup, e_lst, e_test, e_asB, e_tru, e_andT, e_orT, e_notT, e_andV, e_orV, e_notV, e_if, e_aug, e_augS, e_sl, e_part, e_partK, e_noPart, e_bm0, e_bm, e_join, e_yes, e_wipe0, e_wipeS, e_lc, e_for, v_add, v_addS, v_addT, v_iadd, v_sub, v_mul, v_fdiv, v_mod, v_pow, v_shl, v_shr, v_neg, v_lt, v_le, v_gt, v_ge, v_eqI, v_neI, v_eqS, v_neS, v_inS, v_ninS, v_inT, v_ninT, v_inR, v_ninR, v_inSeq, v_seqO, v_seqR, v_seqT, v_seqL, v_ixR, v_ixT, v_ixL, v_ixS, v_atK, v_atSK, v_get, v_getL, v_getK, v_set, v_setL, v_setK, v_on1, v_on2, v_lenR, v_lenT, v_lenL, v_lenS, v_seqK, v_tuple, v_list, v_abs, v_intI, v_intB, v_okL, v_isLst, v_app, v_lstK, v_slS, v_slT, v_join, v_is, v_isnot, v_max, v_min, v_iSeq, v_srcT, v_srcL, v_srcS, v_srcR, v_srcO, v_iRg1, v_rg1, v_truN, v_truB, v_truI, v_truS, v_truR, v_truT, v_truRol, v_truL, v_inRol, v_ninRol, v_inO, v_inOd, v_inDic, v_ixO, v_ixOd, v_ixSeq, v_ixDic, v_dgetK, v_ixStr, v_getO, v_getOd, v_setO, v_setOd, v_setDic, v_lenO, v_lenOd, e_dic0, e_disp, e_pairs0, e_pairsS, e_chain, v_bits, v_iRg3, v_rg3, v_iRg2, v_rg2, v_iEn, v_enT, v_enR, v_enO, v_iZp, v_zpT, v_zpR, v_zpO, v_repr, v_strI, v_strS, v_addR, v_and, v_slR, v_slL, v_ltS, v_srtT, v_srtR, v_srtO, v_srtD, v_revR, v_revT, v_isB, v_iZs, v_zsT, v_eqIS, v_neIS, v_eqB, v_neB])
theorem src_row {v : Pl} (ok : PlOk v) {s : Str} (hs : s = kA ∨ s = kT ∨ s = kG) : ∃ l : List Str, fieldOf v s = some (sD l) ∧ 0 < l.length ∧ l.length ≤ 50 ∧ (∀ x ∈ l, GN x) ∧ (s = kA → l = v.asker) ∧ (s = kT → l = v.thing) := by
  rcases hs with rfl | rfl | rfl
  · exact ⟨_, f_asker, ok.na, ok.la, ok.ga, fun _ => rfl, fun z => absurd z (by decide)⟩
  · exact ⟨_, f_thing, ok.nt, ok.lt, ok.gt, fun z => absurd z (by decide), fun _ => rfl⟩
  · exact ⟨_, f_group, ok.ng, ok.lg, ok.gg, fun z => absurd z (by decide), fun z => absurd z (by decide)⟩
def sp__law_drawn_nodes : P1 := fun ds h Q => ∃ (a c : Addr) (cs : List Int) (p : Addr) (v : Pl) (X : Addr → Prop) (nl : Addr) (Nm : List Str), ds = [.ref a, .ref p, .ref nl] ∧ Dr a c cs h ∧ nl ≠ a ∧ h nl = some (.lst (Nm.map D.str)) ∧ PlAt h p v X ∧ X a ∧ 3 ≤ Nm.length ∧ Nm.length ≤ 90 ∧ (∀ x ∈ Nm, GN x) ∧
  ∀ (N : List (Str × Str × List Str)) (o : MO), N.length = Nm.length → (∀ n ∈ N, NdOk n) → (∃ n ∈ N, n.2.1 ∈ v.asker) → (∃ n ∈ N, n.2.1 ∈ v.thing) → DrO c o → Q (nodsD N) (up h a o)
theorem len__law_drawn_nodes : ∀ ds h Q, sp__law_drawn_nodes ds h Q → ds.length = 3 := fun ds h Q ⟨_, _, _, _, _, _, _, _, e, _⟩ => by rw [e]; rfl
theorem sat__law_drawn_nodes : ∀ ds h Q, sp__law_drawn_nodes ds h Q → rd__law_drawn_nodes sp__law_draw sp__law_pick sp__law_tags_of (endN Q) (startD 10 ds) h := by
  rintro ds h Q ⟨a, c, cs, p, v, X, nl, Nm, rfl, d, na, en, P, xa, n3, n90, gN, q⟩
  have L0 := LV.start d
  show rd__law_drawn_nodes sp__law_draw sp__law_pick sp__law_tags_of (endN Q) [some (.ref a), some (.ref p), some (.ref nl), none, none, none, none, none, none, none] h
  unfold rd__law_drawn_nodes
  walk_at "e0"
  refine ⟨by decide, ?_⟩
  intro fl nfl
  generalize efl : up _ fl _ = h1
  have L1 := L0.newE nfl efl
  unfold rd__law_drawn_nodes_1
  walk_at "e0"
  rw [L1.old en na]
  walk_at "e0"
  rw [List.length_map]
  refine ⟨bnd62 (by omega), ?_⟩
  refine ⟨fun i σ hh => ∃ (N : List (Str × Str × List Str)) (x4 x5 x6 x7 x8 : Option D), LV h a c cs hh [(fl, .lst (N.map nodD))] ∧ N.length = i ∧ (∀ n ∈ N, NdOk n) ∧ (1 ≤ i → ∃ n ∈ N, n.2.1 ∈ v.asker) ∧ (2 ≤ i → ∃ n ∈ N, n.2.1 ∈ v.thing) ∧ σ = [some (.ref a), some (.ref p), some (.ref nl), some (.ref fl), x4, x5, x6, x7, x8, none], Lw.of ⟨[], _, _, _, _, _, L1, rfl, by simp, by omega, by omega, rfl⟩, fun _ _ _ _ => trivial, ?_, ?_⟩
  · rintro i x σ hh hx ⟨N, x4, x5, x6, x7, x8, L, hN, gNd, mA, mT, rfl⟩
    obtain ⟨hi, rfl⟩ := rg_at hx
    walk_at "e0"
    have tail : ∀ (s : Str) (x5 : Option D) (h2 : MH), (s = kA ∨ s = kT ∨ s = kG) → (i = 0 → s = kA) → (i = 1 → s = kT) → LV h a c cs h2 [(fl, .lst (N.map nodD))] →
        rd__law_drawn_nodes_b1_2 sp__law_draw sp__law_pick sp__law_tags_of { nx := Lw (fun σ hh => ∃ (N : List (Str × Str × List Str)) (x4 x5 x6 x7 x8 : Option D), LV h a c cs hh [(fl, .lst (N.map nodD))] ∧ N.length = i + 1 ∧ (∀ n ∈ N, NdOk n) ∧ (1 ≤ i + 1 → ∃ n ∈ N, n.2.1 ∈ v.asker) ∧ (2 ≤ i + 1 → ∃ n ∈ N, n.2.1 ∈ v.thing) ∧ σ = [some (.ref a), some (.ref p), some (.ref nl), some (.ref fl), x4, x5, x6, x7, x8, none]), rt := (endN Q).rt, bk := rd__law_drawn_nodes_2 sp__law_draw sp__law_pick sp__law_tags_of (endN Q), ct := Lw (fun σ hh => ∃ (N : List (Str × Str × List Str)) (x4 x5 x6 x7 x8 : Option D), LV h a c cs hh [(fl, .lst (N.map nodD))] ∧ N.length = i + 1 ∧ (∀ n ∈ N, NdOk n) ∧ (1 ≤ i + 1 → ∃ n ∈ N, n.2.1 ∈ v.asker) ∧ (2 ≤ i + 1 → ∃ n ∈ N, n.2.1 ∈ v.thing) ∧ σ = [some (.ref a), some (.ref p), some (.ref nl), some (.ref fl), x4, x5, x6, x7, x8, none]) }
          [some (.ref a), some (.ref p), some (.ref nl), some (.ref fl), some (.int (i : Nat)), x5, some (.str s), x7, x8, none] h2 := by
      intro s x5 h2 hs s0 s1 L2
      obtain ⟨l, fl1, l1, l2, gl, la, lt⟩ := src_row P.ok hs
      have rest : ∀ (k : Str) (h3 : MH), k ∈ l → LV h a c cs h3 [(fl, .lst (N.map nodD))] → rd__law_drawn_nodes_b1_3 sp__law_draw sp__law_pick sp__law_tags_of { nx := Lw (fun σ hh => ∃ (N : List (Str × Str × List Str)) (x4 x5 x6 x7 x8 : Option D), LV h a c cs hh [(fl, .lst (N.map nodD))] ∧ N.length = i + 1 ∧ (∀ n ∈ N, NdOk n) ∧ (1 ≤ i + 1 → ∃ n ∈ N, n.2.1 ∈ v.asker) ∧ (2 ≤ i + 1 → ∃ n ∈ N, n.2.1 ∈ v.thing) ∧ σ = [some (.ref a), some (.ref p), some (.ref nl), some (.ref fl), x4, x5, x6, x7, x8, none]), rt := (endN Q).rt, bk := rd__law_drawn_nodes_2 sp__law_draw sp__law_pick sp__law_tags_of (endN Q), ct := Lw (fun σ hh => ∃ (N : List (Str × Str × List Str)) (x4 x5 x6 x7 x8 : Option D), LV h a c cs hh [(fl, .lst (N.map nodD))] ∧ N.length = i + 1 ∧ (∀ n ∈ N, NdOk n) ∧ (1 ≤ i + 1 → ∃ n ∈ N, n.2.1 ∈ v.asker) ∧ (2 ≤ i + 1 → ∃ n ∈ N, n.2.1 ∈ v.thing) ∧ σ = [some (.ref a), some (.ref p), some (.ref nl), some (.ref fl), x4, x5, x6, x7, x8, none]) }
          [some (.ref a), some (.ref p), some (.ref nl), some (.ref fl), some (.int (i : Nat)), x5, some (.str s), some (.str k), x8, none] h3 := by
        intro k h3 hk L3
        have P3 := P.lv L3 xa
        unfold rd__law_drawn_nodes_b1_3
        walk_at "e0"
        refine ⟨p, v, X, k, rfl, P3, fun tl ntl => ?_⟩
        generalize etl : up _ tl _ = h4
        have ta := L3.ne ntl
        have L4 := L3.newE ntl etl
        have ltg := P.ok.ltg
        have lto := tagsOf_len v k
        show srcD (.ref tl) _ _
        rw [v_srcR, L4.get 0 rfl]
        walk_at "e0"
        refine lcT_sub L4 (tagsOf v k) D.str D.str rfl (by omega) (fun h1 L1 => (by show h1 tl = _; exact L1.get 0 rfl)) (fun y hy h1 Q' R' L1 hQ hR' => ?_) fun S1 sl h5 sub sa L5 => ?_
        · walk_at "e0"
          refine L1.draw (by decide) (by decide) fun r h2 r0 r1 L2 => ?_
          walk_at "e0"
          by_cases z : r = 0
          · rw [decide_eq_true z, if_pos rfl]; exact hQ _ L2
          · rw [decide_eq_false z, if_neg (by decide)]; exact hR' _ L2
        walk_at "e0"
        unfold rd__law_drawn_nodes_b1_4
        walk_at "e0"
        rw [L5.get 2 rfl, L5.old en na]
        have hi2 : i < Nm.length := hi
        rw [v_ixO, v_ixSeq, atI_of (k := i) (x := .str Nm[i]) rfl (by rw [List.getElem?_map, List.getElem?_eq_getElem hi2]; rfl), v_atK]
        rw [L5.get 0 rfl]
        walk_at "e0"
        refine ⟨trivial, by show 3 ≤ sizeLine; decide, ?_⟩
        rw [L5.get 2 rfl]
        walk_at "e0"
        have L6 := L5.tl.tl.set 0 rfl (.lst ((N ++ [(Nm[i], k, S1)]).map nodD))
        rw [List.map_append] at L6
        have ok : NdOk (Nm[i], k, S1) := ⟨gN _ (List.getElem_mem hi2), gl k hk, Nat.le_trans sub.length_le (by omega), fun t ht => by
          obtain ⟨r, hr, e⟩ := tagsOf_mem (sub.subset ht)
          rw [← e]; exact P.ok.gtg r hr⟩
        refine ⟨sl_lt (by rw [List.length_map]; omega), Lw.of ⟨N ++ [(Nm[i], k, S1)], _, _, _, _, _, by rw [List.map_append]; exact L6, by rw [List.length_append, hN]; rfl, fun n hn => ?_, fun _ => ?_, fun i1 => ?_, rfl⟩⟩
        · rcases List.mem_append.mp hn with hn | hn
          · exact gNd n hn
          · rw [List.mem_singleton.mp hn]; exact ok
        · by_cases z : i = 0
          · exact ⟨(Nm[i], k, S1), by simp, by show k ∈ _; rw [← la (s0 z)]; exact hk⟩
          · obtain ⟨n, hn, e⟩ := mA (by omega)
            exact ⟨n, by simp [hn], e⟩
        · by_cases z : i = 1
          · exact ⟨(Nm[i], k, S1), by simp, by show k ∈ _; rw [← lt (s1 z)]; exact hk⟩
          · obtain ⟨n, hn, e⟩ := mT (by omega)
            exact ⟨n, by simp [hn], e⟩
      have P2 := P.lv L2 xa
      unfold rd__law_drawn_nodes_b1_2
      walk_at "e0"
      split
      · refine P2.ix fl1 fun g eg ng => ?_
        walk_at "e0"
        rw [eg]
        obtain ⟨k, l', rfl⟩ := List.exists_cons_of_length_pos l1
        unfold sD
        rw [List.map_cons, ix_z]
        exact rest k h2 (by simp) L2
      · refine P2.ix fl1 fun g eg ng => ?_
        refine L2.pick eg (fun z => ng (z ▸ xa)) (by unfold sD; rw [ne_eq, List.map_eq_nil_iff]; exact fun z => by rw [z] at l1; simp at l1) (by unfold sD; rw [List.length_map]; omega) fun y hy h3 L3 => ?_
        obtain ⟨k, hk, rfl⟩ := List.mem_map.mp hy
        exact rest k h3 hk L3
    have hd : ∀ (r : Int) (h2 : MH), (i = 0 → r = 0) → (i = 1 → r = 1) → LV h a c cs h2 [(fl, .lst (N.map nodD))] → rd__law_drawn_nodes_b1_1 sp__law_draw sp__law_pick sp__law_tags_of { nx := Lw (fun σ hh => ∃ (N : List (Str × Str × List Str)) (x4 x5 x6 x7 x8 : Option D), LV h a c cs hh [(fl, .lst (N.map nodD))] ∧ N.length = i + 1 ∧ (∀ n ∈ N, NdOk n) ∧ (1 ≤ i + 1 → ∃ n ∈ N, n.2.1 ∈ v.asker) ∧ (2 ≤ i + 1 → ∃ n ∈ N, n.2.1 ∈ v.thing) ∧ σ = [some (.ref a), some (.ref p), some (.ref nl), some (.ref fl), x4, x5, x6, x7, x8, none]), rt := (endN Q).rt, bk := rd__law_drawn_nodes_2 sp__law_draw sp__law_pick sp__law_tags_of (endN Q), ct := Lw (fun σ hh => ∃ (N : List (Str × Str × List Str)) (x4 x5 x6 x7 x8 : Option D), LV h a c cs hh [(fl, .lst (N.map nodD))] ∧ N.length = i + 1 ∧ (∀ n ∈ N, NdOk n) ∧ (1 ≤ i + 1 → ∃ n ∈ N, n.2.1 ∈ v.asker) ∧ (2 ≤ i + 1 → ∃ n ∈ N, n.2.1 ∈ v.thing) ∧ σ = [some (.ref a), some (.ref p), some (.ref nl), some (.ref fl), x4, x5, x6, x7, x8, none]) } [some (.ref a), some (.ref p), some (.ref nl), some (.ref fl), some (.int (i : Nat)), some (.int r), x6, x7, x8, none] h2 := by
      intro r h2 r0 r1 L2
      unfold rd__law_drawn_nodes_b1_1
      walk_at "e0"
      by_cases z0 : r = 0
      · rw [if_pos (decide_eq_true z0)]
        exact tail kA _ h2 (.inl rfl) (fun _ => rfl) (fun z => by rw [r1 z] at z0; exact absurd z0 (by decide)) L2
      · rw [if_neg (by rw [decide_eq_true_eq]; exact z0)]
        by_cases z1 : r = 1
        · rw [if_pos (decide_eq_true z1)]
          exact tail kT _ h2 (.inr (.inl rfl)) (fun z => absurd (r0 z) z0) (fun _ => rfl) L2
        · rw [if_neg (by rw [decide_eq_true_eq]; exact z1)]
          exact tail kG _ h2 (.inr (.inr rfl)) (fun z => absurd (r0 z) z0) (fun z => absurd (r1 z) z1) L2
    unfold rd__law_drawn_nodes_b1
    walk_at "e0"
    split
    · exact hd _ hh (fun z => by rw [z]; rfl) (fun z => by rw [z]; rfl) L
    · rename_i z
      rw [decide_eq_true_eq] at z
      exact L.draw (by decide) (by decide) fun r h2 r0 r1 L2 => hd r h2 (fun w => by omega) (fun w => by omega) L2
  · rintro σ hh ⟨N, x4, x5, x6, x7, x8, L, hN, gNd, mA, mT, rfl⟩
    rw [rg_len] at hN mA mT
    unfold rd__law_drawn_nodes_2
    walk_at "e0"
    refine srt_rows (f := nodD) (l := N) (L.get 0 rfl) (by omega) (fun x _ => pure_nod x) alike_nod (fun _ => rfl) fun M sl lM mM bM nsl => ?_
    generalize esl : up _ sl _ = h2
    have L2 := L.newE nsl esl
    rw [v_seqR, L2.get 0 rfl]
    walk_at "e0"
    have inj : ∀ x y : Str × Str × List Str, nodD x = nodD y → x.2.1 = y.2.1 := fun x y e => by
      unfold nodD at e
      injection e with e
      injection e with e1 e2
      injection e2 with e2 e3
      injection e2
    refine L2.ret fun o k => q M o (by omega) (fun n hn => gNd n (mM n hn)) ?_ ?_ k
    · obtain ⟨n, hn, e⟩ := mA (by omega)
      obtain ⟨m, hm, e'⟩ := bM n hn
      exact ⟨m, hm, by rw [inj _ _ e']; exact e⟩
    · obtain ⟨n, hn, e⟩ := mT (by omega)
      obtain ⟨m, hm, e'⟩ := bM n hn
      exact ⟨m, hm, by rw [inj _ _ e']; exact e⟩
end DL
namespace DL
open PySem PySem.Spec PyProof.Rows L2
local macro_rules | `(tactic| walk_at "ev") => `(tactic| try simp only [e_seq, e_next, e_brk, e_cnt, e_drop, e_ret, e_retN, e_ifS, e_asg, e_gN, e_gSb, e_gTp, e_gCn, e_gNl, e_var, e_varK, e_nth0, e_nthS, e_put0, e_putS, e_c, e_op, e_un, e_call, e_nil, e_cons, e_tup, e_lst, e_test, e_asB, e_tru, e_andT, e_orT, e_notT, e_andV, e_orV, e_notV, e_if, e_aug, e_augS, e_sl, e_part, e_partK, e_noPart, e_bm0, e_bm, e_join, e_yes, e_wipe0, e_wipeS, e_lc, e_for, v_add, v_addS, v_addT, v_iadd, v_sub, v_mul, v_fdiv, v_mod, v_pow, v_shl, v_shr, v_neg, v_lt, v_le, v_gt, v_ge, v_eqI, v_neI, v_eqS, v_neS, v_inS, v_ninS, v_inT, v_ninT, v_inR, v_ninR, v_inSeq, v_seqO, v_seqR, v_seqT, v_seqL, v_ixR, v_ixT, v_ixL, v_ixS, v_atK, v_atSK, v_get, v_getL, v_getK, v_set, v_setL, v_setK, v_on1, v_on2, v_lenR, v_lenT, v_lenL, v_lenS, v_seqK, v_tuple, v_list, v_abs, v_intI, v_intB, v_okL, v_isLst, v_app, v_lstK, v_slS, v_slT, v_join, v_is, v_isnot, v_max, v_min, v_iSeq, v_srcT, v_srcL, v_srcS, v_srcR, v_srcO, v_iRg1, v_rg1, v_truN, v_truB, v_truI, v_truS, v_truR, v_truT, v_truRol, v_truL, v_inRol, v_ninRol, v_inO, v_inOd, v_inDic, v_ixO, v_ixOd, v_ixSeq, v_ixDic, v_dgetK, v_ixStr, v_getO, v_getOd, v_setO, v_setOd, v_setDic, v_lenO, v_lenOd, e_dic0, e_disp, e_pairs0, e_pairsS, e_chain, v_bits, v_iRg3, v_rg3, v_iRg2, v_rg2, v_iEn, v_enT, v_enR, v_enO, v_iZp, v_zpT, v_zpR, v_zpO, v_repr, v_strI, v_strS, v_addR, v_and, v_slR, v_slL, v_ltS, v_srtT, v_srtR, v_srtO, v_srtD, v_revR, v_eqIS, v_neIS, v_eqB, v_neB])
local macro_rules | `(tactic| walk_at "e0") => `(tactic| try simp only [e_seq, e_brk, e_cnt, e_drop, e_ret, e_retN, e_ifS, e_asg, e_gN, e_gSb, e_gTp, e_gCn, e_gNl, e_var, e_varK, e_nth0, e_nthS, e_put0, e_putS, e_c, e_op, e_un, e_call, e_nil, e_cons, e_tup, e_lst, e_test, e_asB, e_tru, e_andT, e_orT, e_notT, e_andV, e_orV, e_notV, e_if, e_aug, e_augS, e_sl, e_part, e_partK, e_noPart, e_bm0, e_bm, e_join, e_yes, e_wipe0, e_wipeS, e_lc, e_for, v_add, v_addS, v_addT, v_iadd, v_sub, v_mul, v_fdiv, v_mod, v_pow, v_shl, v_shr, v_neg, v_lt, v_le, v_gt, v_ge, v_eqI, v_neI, v_eqS, v_neS, v_inS, v_ninS, v_inT, v_ninT, v_inR, v_ninR, v_inSeq, v_seqO, v_seqR, v_seqT, v_seqL, v_ixR, v_ixT, v_ixL, v_ixS, v_atK, v_atSK, v_get, v_getL, v_getK, v_set, v_setL, v_setK, v_on1, v_on2, v_lenR, v_lenT, v_lenL, v_lenS, v_seqK, v_tuple, v_list, v_abs, v_intI, v_intB, v_okL, v_isLst, v_app, v_lstK, v_slS, v_slT, v_join, v_is, v_isnot, v_max, v_min, v_iSeq, v_srcT, v_srcL, v_srcS, v_srcR, v_srcO, v_iRg1, v_rg1, v_truN, v_truB, v_truI, v_truS, v_truR, v_truT, v_truRol, v_truL, v_inRol, v_ninRol, v_inO, v_inOd, v_inDic, v_ixO, v_ixOd, v_ixSeq, v_ixDic, v_dgetK, v_ixStr, v_getO, v_getOd, v_setO, v_setOd, v_setDic, v_lenO, v_lenOd, e_dic0, e_disp, e_pairs0, e_pairsS, e_chain, v_bits, v_iRg3, v_rg3, v_iRg2, v_rg2, v_iEn, v_enT, v_enR, v_enO, v_iZp, v_zpT, v_zpR, v_zpO, v_repr, v_strI, v_strS, v_addR, v_and, v_slR, v_slL, v_ltS, v_srtT, v_srtR, v_srtO, v_srtD, v_revR, v_revT, v_isB, v_iZs, v_zsT, v_eqIS, v_neIS, v_eqB, v_neB])
structure NuOk (u : Str × Str × Int) : Prop where
  a : GN u.1
  f : GN u.2.1
  w : u.2.2.natAbs < 2 ^ 64
theorem numbersOf_mem {v : Pl} {k x : Str} (h : x ∈ numbersOf v k) : ∃ r ∈ v.numbers, r.1 = x := by
  unfold numbersOf at h
  have := (sortS_perm _).subset h
  obtain ⟨r, hr, e⟩ := List.mem_map.mp this
  exact ⟨r, (List.mem_filter.mp hr).1, e⟩
theorem numbersOf_len (v : Pl) (k : Str) : (numbersOf v k).length ≤ v.numbers.length := by
  unfold numbersOf
  rw [(sortS_perm _).length_eq, List.length_map]
  exact List.length_filter_le _ _
def sp__law_drawn_numbers : P1 := fun ds h Q => ∃ (a c : Addr) (cs : List Int) (p : Addr) (v : Pl) (X : Addr → Prop) (N : List (Str × Str × List Str)), ds = [.ref a, .ref p, nodsD N] ∧ Dr a c cs h ∧ PlAt h p v X ∧ X a ∧ N.length ≤ 90 ∧ (∀ n ∈ N, NdOk n) ∧
  ∀ (U : List (Str × Str × Int)) (o : MO), U.length ≤ N.length * 50 → (∀ u ∈ U, NuOk u) → DrO c o → Q (.tup (U.map numD)) (up h a o)
theorem len__law_drawn_numbers : ∀ ds h Q, sp__law_drawn_numbers ds h Q → ds.length = 3 := fun ds h Q ⟨_, _, _, _, _, _, _, e, _⟩ => by rw [e]; rfl
theorem sat__law_drawn_numbers : ∀ ds h Q, sp__law_drawn_numbers ds h Q → rd__law_drawn_numbers sp__law_numbers_of sp__law_draw sp__law_pick (endN Q) (startD 9 ds) h := by
  rintro ds h Q ⟨a, c, cs, p, v, X, N, rfl, d, P, xa, n90, gN, q⟩
  have L0 := LV.start d
  have lnu := P.ok.lnu
  show rd__law_drawn_numbers sp__law_numbers_of sp__law_draw sp__law_pick (endN Q) [some (.ref a), some (.ref p), some (nodsD N), none, none, none, none, none, none] h
  unfold rd__law_drawn_numbers
  walk_at "e0"
  refine ⟨by decide, ?_⟩
  intro fl nfl
  generalize efl : up _ fl _ = h1
  have L1 := L0.newE nfl efl
  unfold rd__law_drawn_numbers_1
  walk_at "e0"
  rw [src_nods]
  refine ⟨fun i σ hh => ∃ (U : List (Str × Str × Int)) (x4 x5 x6 x7 x8 : Option D), LV h a c cs hh [(fl, .lst (U.map numD))] ∧ U.length ≤ i * 50 ∧ (∀ u ∈ U, NuOk u) ∧ σ = [some (.ref a), some (.ref p), some (nodsD N), some (.ref fl), x4, x5, x6, x7, x8], Lw.of ⟨[], _, _, _, _, _, L1, Nat.le_refl _, by simp, rfl⟩, fun _ _ _ _ => trivial, ?_, ?_⟩
  · rintro i x σ hh hx ⟨U, x4, x5, x6, x7, x8, L, hU, gU, rfl⟩
    rw [List.getElem?_map] at hx
    obtain ⟨n, hn, rfl⟩ := Option.map_eq_some_iff.mp hx
    obtain ⟨hi, en⟩ := List.getElem?_eq_some_iff.mp hn
    have nok := gN n (List.mem_of_getElem? hn)
    unfold nodD
    walk_at "e0"
    refine ⟨rfl, ?_⟩
    unfold rd__law_drawn_numbers_b1
    walk_at "e0"
    refine ⟨p, v, X, n.2.1, rfl, P.lv L xa, fun tl ntl => ?_⟩
    generalize etl : up _ tl _ = h2
    have L2 := L.newE ntl etl
    have lto := numbersOf_len v n.2.1
    have mto := fun x (hx : x ∈ numbersOf v n.2.1) => numbersOf_mem hx
    generalize numbersOf v n.2.1 = F at L2 lto mto
    walk_at "e0"
    rw [L2.get 0 rfl]
    walk_at "e0"
    refine ⟨fun j σ hh => ∃ (U : List (Str × Str × Int)) (x7 x8 : Option D), LV h a c cs hh [(tl, .lst (F.map D.str)), (fl, .lst (U.map numD))] ∧ U.length ≤ i * 50 + j ∧ (∀ u ∈ U, NuOk u) ∧ σ = [some (.ref a), some (.ref p), some (nodsD N), some (.ref fl), some (.str n.1), some (.str n.2.1), some (tsD n.2.2), x7, x8], Lw.of ⟨U, _, _, L2, hU, gU, rfl⟩, fun j σ hh ⟨_, _, _, L, _⟩ => L.get 0 rfl, ?_, ?_⟩
    · rintro j x σ hh hx ⟨U, x7, x8, L, hU, gU, rfl⟩
      rw [List.getElem?_map] at hx
      obtain ⟨f, hf, rfl⟩ := Option.map_eq_some_iff.mp hx
      obtain ⟨hj, _⟩ := List.getElem?_eq_some_iff.mp hf
      obtain ⟨r, hr, er⟩ := mto f (List.mem_of_getElem? hf)
      have gf : GN f := er ▸ P.ok.gnu r hr
      walk_at "e0"
      unfold rd__law_drawn_numbers_b2
      walk_at "e0"
      refine L.draw (by decide) (by decide) fun r1 h3 _ _ L3 => ?_
      walk_at "e0"
      have fin : ∀ (w : Int) (h2 : MH), 0 ≤ w → w < 10000 → LV h a c cs h2 [(tl, .lst (F.map D.str)), (fl, .lst (U.map numD))] → ∃ (U' : List (Str × Str × Int)), LV h a c cs (up h2 fl (.lst (U.map numD ++ [.tup [.str n.1, .str f, .int w]]))) [(tl, .lst (F.map D.str)), (fl, .lst (U'.map numD))] ∧ U'.length ≤ i * 50 + (j + 1) ∧ (∀ u ∈ U', NuOk u) := fun w h2 w0 w1 L4 => by
        have L5 := L4.set 1 rfl (.lst ((U ++ [(n.1, f, w)]).map numD))
        refine ⟨U ++ [(n.1, f, w)], by rw [List.map_append] at L5 ⊢; exact L5, by rw [List.length_append]; simp; omega, fun u hu => ?_⟩
        rcases List.mem_append.mp hu with hu | hu
        · exact gU u hu
        · rw [List.mem_singleton.mp hu]; exact ⟨nok.a, gf, by show w.natAbs < _; omega⟩
      have bU : U.length < 1000000 := by omega
      split
      · refine L3.draw (by decide) (by decide) fun w h4 w0 w1 L4 => ?_
        unfold rd__law_drawn_numbers_b2_1
        walk_at "e0"
        rw [L4.get 1 rfl]
        refine ⟨trivial, by show 3 ≤ sizeLine; decide, ?_⟩
        walk_at "e0"
        obtain ⟨U', L5, a1, a2⟩ := fin w h4 w0 (by omega) L4
        exact ⟨sl_lt (by rw [List.length_map]; omega), Lw.of ⟨U', _, _, L5, a1, a2, rfl⟩⟩
      · refine L3.draw (by decide) (by decide) fun w h4 w0 w1 L4 => ?_
        walk_at "e0"
        refine ⟨by show 3 ≤ sizeLine; decide, ?_⟩
        refine L4.pickN (by simp) (by simp) fun y hy h5 L5 => ?_
        have : ∃ w : Int, y = .int w ∧ 0 ≤ w ∧ w < 10000 := by
          rcases List.mem_cons.mp hy with rfl | hy
          · exact ⟨_, rfl, by decide, by decide⟩
          rcases List.mem_cons.mp hy with rfl | hy
          · exact ⟨_, rfl, by decide, by decide⟩
          · rw [List.mem_singleton.mp hy]; exact ⟨_, rfl, by omega, by omega⟩
        obtain ⟨w, rfl, w0, w1⟩ := this
        walk_at "e0"
        unfold rd__law_drawn_numbers_b2_1
        walk_at "e0"
        rw [L5.get 1 rfl]
        refine ⟨trivial, by show 3 ≤ sizeLine; decide, ?_⟩
        walk_at "e0"
        obtain ⟨U', L5, a1, a2⟩ := fin w h5 w0 (by omega) L5
        exact ⟨sl_lt (by rw [List.length_map]; omega), Lw.of ⟨U', _, _, L5, a1, a2, rfl⟩⟩
    · rintro σ hh ⟨U, x7, x8, L, hU, gU, rfl⟩
      rw [List.length_map] at hU
      exact Lw.of ⟨U, _, _, _, _, _, L.tl, by omega, gU, rfl⟩
  · rintro σ hh ⟨U, x4, x5, x6, x7, x8, L, hU, gU, rfl⟩
    rw [List.length_map] at hU
    unfold rd__law_drawn_numbers_2
    walk_at "e0"
    refine srt_rows (f := numD) (l := U) (L.get 0 rfl) (by omega) (fun x _ => pure_num x) alike_num (fun _ => rfl) fun M sl lM mM bM nsl => ?_
    generalize esl : up _ sl _ = h2
    have L2 := L.newE nsl esl
    rw [v_seqR, L2.get 0 rfl]
    walk_at "e0"
    exact L2.ret fun o k => q M o (by omega) (fun n hn => gU n (mM n hn)) k
end DL
namespace DL
open PySem PySem.Spec PyProof.Rows L2
local macro_rules | `(tactic| walk_at "ev") => `(tactic| try simp only [e_seq, e_next, e_brk, e_cnt, e_drop, e_ret, e_retN, e_ifS, e_asg, e_gN, e_gSb, e_gTp, e_gCn, e_gNl, e_var, e_varK, e_nth0, e_nthS, e_put0, e_putS, e_c, e_op, e_un, e_call, e_nil, e_cons, e_tup, e_lst, e_test, e_asB, e_tru, e_andT, e_orT, e_notT, e_andV, e_orV, e_notV, e_if, e_aug, e_augS, e_sl, e_part, e_partK, e_noPart, e_bm0, e_bm, e_join, e_yes, e_wipe0, e_wipeS, e_lc, e_for, v_add, v_addS, v_addT, v_iadd, v_sub, v_mul, v_fdiv, v_mod, v_pow, v_shl, v_shr, v_neg, v_lt, v_le, v_gt, v_ge, v_eqI, v_neI, v_eqS, v_neS, v_inS, v_ninS, v_inT, v_ninT, v_inR, v_ninR, v_inSeq, v_seqO, v_seqR, v_seqT, v_seqL, v_ixR, v_ixT, v_ixL, v_ixS, v_atK, v_atSK, v_get, v_getL, v_getK, v_set, v_setL, v_setK, v_on1, v_on2, v_lenR, v_lenT, v_lenL, v_lenS, v_seqK, v_tuple, v_list, v_abs, v_intI, v_intB, v_okL, v_isLst, v_app, v_lstK, v_slS, v_slT, v_join, v_is, v_isnot, v_max, v_min, v_iSeq, v_srcT, v_srcL, v_srcS, v_srcR, v_srcO, v_iRg1, v_rg1, v_truN, v_truB, v_truI, v_truS, v_truR, v_truT, v_truRol, v_truL, v_inRol, v_ninRol, v_inO, v_inOd, v_inDic, v_ixO, v_ixOd, v_ixSeq, v_ixDic, v_dgetK, v_ixStr, v_getO, v_getOd, v_setO, v_setOd, v_setDic, v_lenO, v_lenOd, e_dic0, e_disp, e_pairs0, e_pairsS, e_chain, v_bits, v_iRg3, v_rg3, v_iRg2, v_rg2, v_iEn, v_enT, v_enR, v_enO, v_iZp, v_zpT, v_zpR, v_zpO, v_repr, v_strI, v_strS, v_addR, v_and, v_slR, v_slL, v_ltS, v_srtT, v_srtR, v_srtO, v_srtD, v_revR, v_eqIS, v_neIS, v_eqB, v_neB])
local macro_rules | `(tactic| walk_at "e0") => `(tactic| try simp only [e_seq, e_brk, e_cnt, e_drop, e_ret, e_retN, e_ifS, e_asg, e_gN, e_gSb, e_gTp, e_gCn, e_gNl, e_var, e_varK, e_nth0, e_nthS, e_put0, e_putS, e_c, e_op, e_un, e_call, e_nil, e_cons, e_tup, e_lst, e_test, e_asB, e_tru, e_andT, e_orT, e_notT, e_andV, e_orV, e_notV, e_if, e_aug, e_augS, e_sl, e_part, e_partK, e_noPart, e_bm0, e_bm, e_join, e_yes, e_wipe0, e_wipeS, e_lc, e_for, v_add, v_addS, v_addT, v_iadd, v_sub, v_mul, v_fdiv, v_mod, v_pow, v_shl, v_shr, v_neg, v_lt, v_le, v_gt, v_ge, v_eqI, v_neI, v_eqS, v_neS, v_inS, v_ninS, v_inT, v_ninT, v_inR, v_ninR, v_inSeq, v_seqO, v_seqR, v_seqT, v_seqL, v_ixR, v_ixT, v_ixL, v_ixS, v_atK, v_atSK, v_get, v_getL, v_getK, v_set, v_setL, v_setK, v_on1, v_on2, v_lenR, v_lenT, v_lenL, v_lenS, v_seqK, v_tuple, v_list, v_abs, v_intI, v_intB, v_okL, v_isLst, v_app, v_lstK, v_slS, v_slT, v_join, v_is, v_isnot, v_max, v_min, v_iSeq, v_srcT, v_srcL, v_srcS, v_srcR, v_srcO, v_iRg1, v_rg1, v_truN, v_truB, v_truI, v_truS, v_truR, v_truT, v_truRol, v_truL, v_inRol, v_ninRol, v_inO, v_inOd, v_inDic, v_ixO, v_ixOd, v_ixSeq, v_ixDic, v_dgetK, v_ixStr, v_getO, v_getOd, v_setO, v_setOd, v_setDic, v_lenO, v_lenOd, e_dic0, e_disp, e_pairs0, e_pairsS, e_chain, v_bits, v_iRg3, v_rg3, v_iRg2, v_rg2, v_iEn, v_enT, v_enR, v_enO, v_iZp, v_zpT, v_zpR, v_zpO, v_repr, v_strI, v_strS, v_addR, v_and, v_slR, v_slL, v_ltS, v_srtT, v_srtR, v_srtO, v_srtD, v_revR, v_revT, v_isB, v_iZs, v_zsT, v_eqIS, v_neIS, v_eqB, v_neB])
structure LkOk (x : Str × Str × Str) : Prop where
  a : GN x.1
  t : GN x.2.1
  e : GN x.2.2
theorem nin_any {x : D} {ds : List D} {k : Bool → Prop} (px : pure? 60 x = true) (pd : pures? 60 ds = true) (q : ∀ b, k b) : inO x k (some (.lst ds)) := by
  rw [v_inO, v_inSeq]
  exact ⟨px, pd, q _⟩
theorem nod_0 {r : Str × Str × List Str} {h : MH} {Q : KD} : ixD (nodD r) (.int 0) h Q = Q (.str r.1) h := rfl
theorem nod_1 {r : Str × Str × List Str} {h : MH} {Q : KD} : ixD (nodD r) (.int 1) h Q = Q (.str r.2.1) h := rfl
def sp__law_drawn_links : P1 := fun ds h Q => ∃ (a c : Addr) (cs : List Int) (p : Addr) (v : Pl) (X : Addr → Prop) (N : List (Str × Str × List Str)) (many : Nat), ds = [.ref a, .ref p, nodsD N, .int (many : Nat)] ∧ Dr a c cs h ∧ PlAt h p v X ∧ X a ∧ N.length ≤ 90 ∧ (∀ n ∈ N, NdOk n) ∧ (∃ n ∈ N, n.2.1 ∈ v.asker) ∧ (∃ n ∈ N, n.2.1 ∈ v.thing) ∧ many ≤ 1000 ∧
  ∀ (K : List (Str × Str × Str)) (o : MO), K.length ≤ many → (∀ x ∈ K, LkOk x) → DrO c o → Q (.tup (K.map lnkD)) (up h a o)
theorem len__law_drawn_links : ∀ ds h Q, sp__law_drawn_links ds h Q → ds.length = 4 := fun ds h Q ⟨_, _, _, _, _, _, _, _, e, _⟩ => by rw [e]; rfl
theorem sat__law_drawn_links : ∀ ds h Q, sp__law_drawn_links ds h Q → rd__law_drawn_links sp__law_kinds sp__law_pick sp__law_allowed sp__law_letter sp__law_standing (endN Q) (startD 15 ds) h := by
  rintro ds h Q ⟨a, c, cs, p, v, X, N, many, rfl, d, P, xa, n90, gN, mA, mT, hm, q⟩
  have L0 := LV.start d
  show rd__law_drawn_links sp__law_kinds sp__law_pick sp__law_allowed sp__law_letter sp__law_standing (endN Q) [some (.ref a), some (.ref p), some (nodsD N), some (.int (many : Nat)), none, none, none, none, none, none, none, none, none, none, none] h
  unfold rd__law_drawn_links
  walk_at "e0"
  refine ⟨N, rfl, by omega, fun k kvs nk dk => ?_⟩
  generalize ek : up _ k _ = h1
  have L1 := L0.newE nk ek
  have P1 := P.lv L1 xa
  walk_at "e0"
  unfold rd__law_drawn_links_1
  walk_at "e0"
  rw [src_nods]
  refine lcT_tf N nodD (fun n => .str n.1) (fun n => !decide (n.2.1 ∈ v.thing)) rfl (Nat.le_of_lt (sl_lt (by omega))) trivial (fun n hn Q' R' hQ hR => ?_) fun fr nfr => ?_
  · walk_at "e0"
    rw [nod_1]
    refine P1.ix f_thing fun l el nl => ?_
    rw [v_ninR, el]
    unfold sD
    rw [inO_s]
    walk_at "e0"
    by_cases z : n.2.1 ∈ v.thing
    · rw [decide_eq_true z, if_neg (by decide)]; exact hR (by rw [decide_eq_true z]; rfl) _ le.refl
    · rw [decide_eq_false z, if_pos (by rfl), nod_0]; exact hQ (by rw [decide_eq_false z]; rfl) _ le.refl
  have eF : (N.filter fun n => !decide (n.2.1 ∈ v.thing)).map (fun n => D.str n.1) = ((N.filter fun n => !decide (n.2.1 ∈ v.thing)).map (·.1)).map D.str := by rw [List.map_map]; rfl
  rw [eF]
  have F0 : (N.filter fun n => !decide (n.2.1 ∈ v.thing)).map (·.1) ≠ [] := by
    obtain ⟨n, hn, e⟩ := mA
    intro z
    rw [List.map_eq_nil_iff, List.filter_eq_nil_iff] at z
    exact z n hn (by rw [decide_eq_false (P.ok.dis _ e)]; rfl)
  have Fm : ∀ x ∈ (N.filter fun n => !decide (n.2.1 ∈ v.thing)).map (·.1), ∃ n ∈ N, n.1 = x := fun x hx => by
    obtain ⟨n, hn, e⟩ := List.mem_map.mp hx
    exact ⟨n, (List.mem_filter.mp hn).1, e⟩
  have Fl : ((N.filter fun n => !decide (n.2.1 ∈ v.thing)).map (·.1)).length ≤ 90 := by
    rw [List.length_map]; exact Nat.le_trans (List.length_filter_le _ _) n90
  generalize (N.filter fun n => !decide (n.2.1 ∈ v.thing)).map (·.1) = F at F0 Fm Fl
  generalize efr : up _ fr _ = h2
  have fra := L1.ne nfr
  have L2 := L1.newE nfr efr
  have P2 := P.lv L2 xa
  unfold rd__law_drawn_links_2
  walk_at "e0"
  rw [src_nods]
  refine lcT_tf N nodD (fun n => .str n.1) (fun n => decide (n.2.1 ∈ v.group)) rfl (Nat.le_of_lt (sl_lt (by omega))) trivial (fun n hn Q' R' hQ hR => ?_) fun gr ngr => ?_
  · walk_at "e0"
    rw [nod_1]
    refine P2.ix f_group fun l el nl => ?_
    rw [v_inR, el]
    unfold sD
    rw [inO_s]
    walk_at "e0"
    by_cases z : n.2.1 ∈ v.group
    · rw [decide_eq_true z, if_pos (by rfl), nod_0]; exact hQ (decide_eq_true z) _ le.refl
    · rw [decide_eq_false z, if_neg (by decide)]; exact hR (decide_eq_false z) _ le.refl
  have eG : (N.filter fun n => decide (n.2.1 ∈ v.group)).map (fun n => D.str n.1) = ((N.filter fun n => decide (n.2.1 ∈ v.group)).map (·.1)).map D.str := by rw [List.map_map]; rfl
  rw [eG]
  have Gm : ∀ x ∈ (N.filter fun n => decide (n.2.1 ∈ v.group)).map (·.1), ∃ n ∈ N, n.1 = x := fun x hx => by
    obtain ⟨n, hn, e⟩ := List.mem_map.mp hx
    exact ⟨n, (List.mem_filter.mp hn).1, e⟩
  have Gl : ((N.filter fun n => decide (n.2.1 ∈ v.group)).map (·.1)).length ≤ 90 := by
    rw [List.length_map]; exact Nat.le_trans (List.length_filter_le _ _) n90
  generalize (N.filter fun n => decide (n.2.1 ∈ v.group)).map (·.1) = G at Gm Gl
  generalize egr : up _ gr _ = h3
  have L3 := L2.newE ngr egr
  have P3 := P.lv L3 xa
  unfold rd__law_drawn_links_3
  walk_at "e0"
  rw [src_nods]
  refine lcT_tf N nodD (fun n => .str n.1) (fun n => !decide (n.2.1 ∈ v.asker)) rfl (Nat.le_of_lt (sl_lt (by omega))) trivial (fun n hn Q' R' hQ hR => ?_) fun e1 ne1 => ?_
  · walk_at "e0"
    rw [nod_1]
    refine P3.ix f_asker fun l el nl => ?_
    rw [v_ninR, el]
    unfold sD
    rw [inO_s]
    walk_at "e0"
    by_cases z : n.2.1 ∈ v.asker
    · rw [decide_eq_true z, if_neg (by decide)]; exact hR (by rw [decide_eq_true z]; rfl) _ le.refl
    · rw [decide_eq_false z, if_pos (by rfl), nod_0]; exact hQ (by rw [decide_eq_false z]; rfl) _ le.refl
  have eE : (N.filter fun n => !decide (n.2.1 ∈ v.asker)).map (fun n => D.str n.1) = ((N.filter fun n => !decide (n.2.1 ∈ v.asker)).map (·.1)).map D.str := by rw [List.map_map]; rfl
  rw [eE]
  have E0 : (N.filter fun n => !decide (n.2.1 ∈ v.asker)).map (·.1) ≠ [] := by
    obtain ⟨n, hn, e⟩ := mT
    intro z
    rw [List.map_eq_nil_iff, List.filter_eq_nil_iff] at z
    exact z n hn (by rw [decide_eq_false fun w => P.ok.dis _ w e]; rfl)
  have Em : ∀ x ∈ (N.filter fun n => !decide (n.2.1 ∈ v.asker)).map (·.1), ∃ n ∈ N, n.1 = x := fun x hx => by
    obtain ⟨n, hn, e⟩ := List.mem_map.mp hx
    exact ⟨n, (List.mem_filter.mp hn).1, e⟩
  have El : ((N.filter fun n => !decide (n.2.1 ∈ v.asker)).map (·.1)).length ≤ 90 := by
    rw [List.length_map]; exact Nat.le_trans (List.length_filter_le _ _) n90
  generalize (N.filter fun n => !decide (n.2.1 ∈ v.asker)).map (·.1) = E at E0 Em El
  generalize ee1 : up _ e1 _ = h4
  have L4 := L3.newE ne1 ee1
  have P4 := P.lv L4 xa
  have lb := P.ok.lb
  walk_at "e0"
  refine P4.ix f_badge fun lb el nl => ?_
  refine ⟨_, _, L4.get 0 rfl, el, by unfold sD; rw [List.length_map, List.length_map]; exact Nat.le_of_lt (sl_lt (by omega)), ?_⟩
  intro e2 ne2
  generalize ee2 : up _ e2 _ = h5
  have L5 := L4.newE ne2 ee2
  refine ⟨_, _, L5.get 0 rfl, L5.get 2 rfl, by unfold sD; rw [List.length_append, List.length_map, List.length_map, List.length_map]; exact Nat.le_of_lt (sl_lt (by omega)), ?_⟩
  intro e3 ne3
  generalize ee3 : up _ e3 _ = h6
  have L6 := L5.newE ne3 ee3
  have e3a := L5.ne ne3
  have eC : (E.map D.str ++ sD v.badge) ++ G.map D.str = ((E ++ v.badge) ++ G).map D.str := by unfold sD; rw [List.map_append, List.map_append]
  rw [eC] at L6
  have C0 : (E ++ v.badge) ++ G ≠ [] := by
    intro z
    rw [List.append_eq_nil_iff, List.append_eq_nil_iff] at z
    exact E0 z.1.1
  have Cm : ∀ x ∈ (E ++ v.badge) ++ G, GN x := fun x hx => by
    rcases List.mem_append.mp hx with hx | hx
    · rcases List.mem_append.mp hx with hx | hx
      · obtain ⟨n, hn, e⟩ := Em x hx; rw [← e]; exact (gN n hn).a
      · exact P.ok.gb x hx
    · obtain ⟨n, hn, e⟩ := Gm x hx; rw [← e]; exact (gN n hn).a
  have Cl : ((E ++ v.badge) ++ G).length ≤ 1000 := by rw [List.length_append, List.length_append]; omega
  generalize (E ++ v.badge) ++ G = C at L6 C0 Cm Cl
  unfold rd__law_drawn_links_4
  walk_at "e0"
  refine ⟨by decide, ?_⟩
  intro fl nfl
  generalize efl : up _ fl _ = h7
  have L7 := L6.newE nfl efl
  unfold rd__law_drawn_links_5
  walk_at "e0"
  refine ⟨bnd62 (by omega), ?_⟩
  refine ⟨fun i σ hh => ∃ (K : List (Str × Str × Str)) (x9 x10 x11 x12 x13 : Option D), LV h a c cs hh [(fl, .lst (K.map lnkD)), (e3, .lst (C.map D.str)), (fr, .lst (F.map D.str)), (k, .dic kvs)] ∧ K.length ≤ i ∧ (∀ x ∈ K, LkOk x) ∧ σ = [some (.ref a), some (.ref p), some (nodsD N), some (.int (many : Nat)), some (.ref k), some (.ref fr), some (.ref gr), some (.ref e3), some (.ref fl), x9, x10, x11, x12, x13, none], Lw.of ⟨[], _, _, _, _, _, L7.sub (List.Sublist.cons_cons _ (List.Sublist.cons_cons _ (List.Sublist.cons _ (List.Sublist.cons _ (List.Sublist.cons _ (List.Sublist.refl _)))))), Nat.le_refl _, by simp, rfl⟩, fun _ _ _ _ => trivial, ?_, ?_⟩
  · rintro i x σ hh hx ⟨K, x9, x10, x11, x12, x13, L, hK, gK, rfl⟩
    obtain ⟨hi, rfl⟩ := rg_at hx
    walk_at "e0"
    unfold rd__law_drawn_links_b1
    walk_at "e0"
    refine L.pick (L.get 2 rfl) fra (by rw [ne_eq, List.map_eq_nil_iff]; exact F0) (by rw [List.length_map]; omega) fun y hy h8 L8 => ?_
    obtain ⟨nd, hnd, rfl⟩ := List.mem_map.mp hy
    obtain ⟨n, hn, en⟩ := Fm nd hnd
    walk_at "e0"
    unfold rd__law_drawn_links_b1_1
    walk_at "e0"
    refine L8.pick (L8.get 1 rfl) e3a (by rw [ne_eq, List.map_eq_nil_iff]; exact C0) (by rw [List.length_map]; omega) fun y hy h9 L9 => ?_
    obtain ⟨e, he, rfl⟩ := List.mem_map.mp hy
    walk_at "e0"
    unfold rd__law_drawn_links_b1_2
    walk_at "e0"
    have P9 := P.lv L9 xa
    refine P9.ix f_ties fun l el nl => ?_
    have lti := P.ok.lti
    refine L9.pick el (fun z => nl (z ▸ xa)) (by rw [ne_eq, List.map_eq_nil_iff]; exact fun z => by have := P.ok.nti; rw [z] at this; simp at this) (by rw [List.length_map]; omega) fun y hy h10 L10 => ?_
    obtain ⟨t, ht, rfl⟩ := List.mem_map.mp hy
    walk_at "e0"
    rw [tie_0]
    walk_at "e0"
    unfold rd__law_drawn_links_b1_3
    walk_at "e0"
    refine ⟨by show 3 ≤ sizeLine; decide, ?_⟩
    have lok : LkOk (nd, t.1, e) := ⟨by rw [← en]; exact (gN n hn).a, P.ok.gti t ht, Cm e he⟩
    have P10 := P.lv L10 xa
    have K10 : KAt h10 k (kindsOf N) := ⟨kvs, L10.get 3 rfl, dk⟩
    obtain ⟨kd, ekd⟩ := kindsOf_some hn
    rw [en] at ekd
    unfold rd__law_drawn_links_b1_4
    walk_at "e0"
    rw [L10.get 0 rfl]
    refine nin_any (by rfl) (pures_of fun x hx => by obtain ⟨y, _, rfl⟩ := List.mem_map.mp hx; exact pure_lnk y) fun b => ?_
    have nx : ∀ {σ : Sl}, σ = [some (.ref a), some (.ref p), some (nodsD N), some (.int (many : Nat)), some (.ref k), some (.ref fr), some (.ref gr), some (.ref e3), some (.ref fl), some (.int (i : Nat)), some (.str nd), some (.str e), some (.str t.1), some (lnkD (nd, t.1, e)), none] → Lw (fun σ hh => ∃ (K : List (Str × Str × Str)) (x9 x10 x11 x12 x13 : Option D), LV h a c cs hh [(fl, .lst (K.map lnkD)), (e3, .lst (C.map D.str)), (fr, .lst (F.map D.str)), (k, .dic kvs)] ∧ K.length ≤ i + 1 ∧ (∀ x ∈ K, LkOk x) ∧ σ = [some (.ref a), some (.ref p), some (nodsD N), some (.int (many : Nat)), some (.ref k), some (.ref fr), some (.ref gr), some (.ref e3), some (.ref fl), x9, x10, x11, x12, x13, none]) σ h10 := fun z => Lw.of ⟨K, _, _, _, _, _, L10, by omega, gK, z⟩
    walk_at "e0"
    cases b with
    | true => rw [if_neg (by decide), e_next]; exact nx rfl
    | false =>
      rw [if_pos (by rfl)]
      refine ⟨p, k, v, X, kindsOf N, nd, kd, rfl, P10, K10, ekd, fun t1 _ => ?_⟩
      refine ⟨p, k, v, X, kindsOf N, t.1, e, rfl, P10, K10, fun y z ez => Nat.le_trans (gN _ (kindsOf_mem ez)).l (by decide), fun e2 t2 h2 => ?_⟩
      refine ⟨p, v, X, (kd.1, t1), t.1, e2, t2, rfl, P10, h2, fun b => ?_⟩
      walk_at "e0"
      cases b with
      | false => rw [if_neg (by decide), e_next]; exact nx rfl
      | true =>
        rw [if_pos rfl, L10.get 0 rfl]
        refine ⟨trivial, ?_⟩
        walk_at "e0"
        have L11 := L10.set 0 rfl (.lst ((K ++ [(nd, t.1, e)]).map lnkD))
        rw [List.map_append] at L11
        refine ⟨sl_lt (by rw [List.length_map]; omega), Lw.of ⟨K ++ [(nd, t.1, e)], _, _, _, _, _, by rw [List.map_append]; exact L11, by rw [List.length_append]; simp; omega, fun u hu => ?_, rfl⟩⟩
        rcases List.mem_append.mp hu with hu | hu
        · exact gK u hu
        · rw [List.mem_singleton.mp hu]; exact lok
  · rintro σ hh ⟨K, x9, x10, x11, x12, x13, L, hK, gK, rfl⟩
    rw [rg_len] at hK
    unfold rd__law_drawn_links_6
    walk_at "e0"
    refine srt_rows (f := lnkD) (l := K) (L.get 0 rfl) (by omega) (fun x _ => pure_lnk x) alike_lnk (fun _ => rfl) fun M sl lM mM bM nsl => ?_
    generalize esl : up _ sl _ = h2
    have L2 := L.newE nsl esl
    rw [v_seqR, L2.get 0 rfl]
    walk_at "e0"
    exact L2.ret fun o k => q M o (by omega) (fun n hn => gK n (mM n hn)) k
end DL
namespace DL
open PySem PySem.Spec PyProof.Rows L2
local macro_rules | `(tactic| walk_at "ev") => `(tactic| try simp only [e_seq, e_next, e_brk, e_cnt, e_drop, e_ret, e_retN, e_ifS, e_asg, e_gN, e_gSb, e_gTp, e_gCn, e_gNl, e_var, e_varK, e_nth0, e_nthS, e_put0, e_putS, e_c, e_op, e_un, e_call, e_nil, e_cons, e_tup, e_lst, e_test, e_asB, e_tru, e_andT, e_orT, e_notT, e_andV, e_orV, e_notV, e_if, e_aug, e_augS, e_sl, e_part, e_partK, e_noPart, e_bm0, e_bm, e_join, e_yes, e_wipe0, e_wipeS, e_lc, e_for, v_add, v_addS, v_addT, v_iadd, v_sub, v_mul, v_fdiv, v_mod, v_pow, v_shl, v_shr, v_neg, v_lt, v_le, v_gt, v_ge, v_eqI, v_neI, v_eqS, v_neS, v_inS, v_ninS, v_inT, v_ninT, v_inR, v_ninR, v_inSeq, v_seqO, v_seqR, v_seqT, v_seqL, v_ixR, v_ixT, v_ixL, v_ixS, v_atK, v_atSK, v_get, v_getL, v_getK, v_set, v_setL, v_setK, v_on1, v_on2, v_lenR, v_lenT, v_lenL, v_lenS, v_seqK, v_tuple, v_list, v_abs, v_intI, v_intB, v_okL, v_isLst, v_app, v_lstK, v_slS, v_slT, v_join, v_is, v_isnot, v_max, v_min, v_iSeq, v_srcT, v_srcL, v_srcS, v_srcR, v_srcO, v_iRg1, v_rg1, v_truN, v_truB, v_truI, v_truS, v_truR, v_truT, v_truRol, v_truL, v_inRol, v_ninRol, v_inO, v_inOd, v_inDic, v_ixO, v_ixOd, v_ixSeq, v_ixDic, v_dgetK, v_ixStr, v_getO, v_getOd, v_setO, v_setOd, v_setDic, v_lenO, v_lenOd, e_dic0, e_disp, e_pairs0, e_pairsS, e_chain, v_bits, v_iRg3, v_rg3, v_iRg2, v_rg2, v_iEn, v_enT, v_enR, v_enO, v_iZp, v_zpT, v_zpR, v_zpO, v_repr, v_strI, v_strS, v_addR, v_and, v_slR, v_slL, v_ltS, v_srtT, v_srtR, v_srtO, v_srtD, v_revR, v_eqIS, v_neIS, v_eqB, v_neB])
local macro_rules | `(tactic| walk_at "e0") => `(tactic| try simp only [e_seq, e_brk, e_cnt, e_drop, e_ret, e_retN, e_ifS, e_asg, e_gN, e_gSb, e_gTp, e_gCn, e_gNl, e_var, e_varK, e_nth0, e_nthS, e_put0, e_putS, e_c, e_op, e_un, e_call, e_nil, e_cons, e_tup, e_lst, e_test, e_asB, e_tru, e_andT, e_orT, e_notT, e_andV, e_orV, e_notV, e_if, e_aug, e_augS, e_sl, e_part, e_partK, e_noPart, e_bm0, e_bm, e_join, e_yes, e_wipe0, e_wipeS, e_lc, e_for, v_add, v_addS, v_addT, v_iadd, v_sub, v_mul, v_fdiv, v_mod, v_pow, v_shl, v_shr, v_neg, v_lt, v_le, v_gt, v_ge, v_eqI, v_neI, v_eqS, v_neS, v_inS, v_ninS, v_inT, v_ninT, v_inR, v_ninR, v_inSeq, v_seqO, v_seqR, v_seqT, v_seqL, v_ixR, v_ixT, v_ixL, v_ixS, v_atK, v_atSK, v_get, v_getL, v_getK, v_set, v_setL, v_setK, v_on1, v_on2, v_lenR, v_lenT, v_lenL, v_lenS, v_seqK, v_tuple, v_list, v_abs, v_intI, v_intB, v_okL, v_isLst, v_app, v_lstK, v_slS, v_slT, v_join, v_is, v_isnot, v_max, v_min, v_iSeq, v_srcT, v_srcL, v_srcS, v_srcR, v_srcO, v_iRg1, v_rg1, v_truN, v_truB, v_truI, v_truS, v_truR, v_truT, v_truRol, v_truL, v_inRol, v_ninRol, v_inO, v_inOd, v_inDic, v_ixO, v_ixOd, v_ixSeq, v_ixDic, v_dgetK, v_ixStr, v_getO, v_getOd, v_setO, v_setOd, v_setDic, v_lenO, v_lenOd, e_dic0, e_disp, e_pairs0, e_pairsS, e_chain, v_bits, v_iRg3, v_rg3, v_iRg2, v_rg2, v_iEn, v_enT, v_enR, v_enO, v_iZp, v_zpT, v_zpR, v_zpO, v_repr, v_strI, v_strS, v_addR, v_and, v_slR, v_slL, v_ltS, v_srtT, v_srtR, v_srtO, v_srtD, v_revR, v_revT, v_isB, v_iZs, v_zsT, v_eqIS, v_neIS, v_eqB, v_neB])
def clD (n : Str × Str) : D := .tup [.str n.1, .str n.2]
def tgD (n : Str × Str × Bool) : D := .tup [.str n.1, .str n.2.1, .bool n.2.2]
theorem alike_cl (x y : Str × Str) : PySem.W.alike (pd (clD x)) (pd (clD y)) = true := by
  unfold clD
  simp only [pd, pds, PySem.W.alike, PySem.W.alikeAll]; rfl
theorem alike_tg (x y : Str × Str × Bool) : PySem.W.alike (pd (tgD x)) (pd (tgD y)) = true := by
  unfold tgD
  simp only [pd, pds, PySem.W.alike, PySem.W.alikeAll]; rfl
theorem pure_cl {n : Nat} (x : Str × Str) : pure? (n + 2) (clD x) = true := by simp [clD, pure?, pures?]
theorem pure_tg {n : Nat} (x : Str × Str × Bool) : pure? (n + 2) (tgD x) = true := by simp [tgD, pure?, pures?]
structure ClOk (x : Str × Str) : Prop where
  a : GN x.1
  t : GN x.2
structure TgOk (x : Str × Str × Bool) : Prop where
  a : GN x.1
  t : GN x.2.1
def worldD (N : List (Str × Str × List Str)) (K : List (Str × Str × Str)) (U : List (Str × Str × Int)) : D := .tup [nodsD N, .tup (K.map lnkD), .tup (U.map numD)]
theorem w_0 {N : List (Str × Str × List Str)} {K : List (Str × Str × Str)} {U : List (Str × Str × Int)} {h : MH} {Q : KD} : ixD (worldD N K U) (.int 0) h Q = Q (nodsD N) h := rfl
theorem w_1 {N : List (Str × Str × List Str)} {K : List (Str × Str × Str)} {U : List (Str × Str × Int)} {h : MH} {Q : KD} : ixD (worldD N K U) (.int 1) h Q = Q (.tup (K.map lnkD)) h := rfl
theorem w_2 {N : List (Str × Str × List Str)} {K : List (Str × Str × Str)} {U : List (Str × Str × Int)} {h : MH} {Q : KD} : ixD (worldD N K U) (.int 2) h Q = Q (.tup (U.map numD)) h := rfl
def sgD (n : D) (L C T U : List D) : D := .tup [n, .tup L, .tup C, .tup T, .tup U]
theorem PlAt.ixB {h hh : MH} {a c p : Addr} {cs : List Int} {ws : List (Addr × MO)} {v : Pl} {X : Addr → Prop} (P : PlAt h p v X) (L : LV h a c cs hh ws) (xa : X a) {nm : Str} {xs : List D} (e : fieldOf v nm = some xs) {Q : KD} (q : ∀ l, h l = some (.lst xs) → l ≠ a → Q (.ref l) hh) : ixO (.str nm) hh Q (hh p) := by
  obtain ⟨kvs, ep, al, f⟩ := P.at_.ex
  obtain ⟨l, el, hl, nl⟩ := f nm xs e
  rw [L.old ep (fun z => P.at_.np (z ▸ xa)), v_ixOd, v_ixDic, el]
  refine ⟨?_, q l hl fun z => nl (z ▸ xa)⟩
  unfold DL.fit
  rw [al]; rfl
def sp__law_full_sight : P1 := fun ds h Q => ∃ (a c : Addr) (cs : List Int) (p : Addr) (v : Pl) (X : Addr → Prop) (N : List (Str × Str × List Str)) (K : List (Str × Str × Str)) (U : List (Str × Str × Int)), ds = [.ref p, worldD N K U] ∧ Dr a c cs h ∧ PlAt h p v X ∧ X a ∧ N.length ≤ 20 ∧ (∀ n ∈ N, NdOk n) ∧
  ∀ (N' : List (Str × Str × List Str)) (C : List (Str × Str)) (T : List (Str × Str × Bool)) (o : MO), N'.length ≤ 20 → C.length ≤ 1000 → T.length ≤ 1000 → (∀ n ∈ N', NdOk n) → (∀ x ∈ C, ClOk x) → (∀ x ∈ T, TgOk x) → DrO c o → Q (sgD (nodsD N') (K.map lnkD) (C.map clD) (T.map tgD) (U.map numD)) (up h a o)
theorem len__law_full_sight : ∀ ds h Q, sp__law_full_sight ds h Q → ds.length = 2 := fun ds h Q ⟨_, _, _, _, _, _, _, _, _, e, _⟩ => by rw [e]; rfl
theorem sat__law_full_sight : ∀ ds h Q, sp__law_full_sight ds h Q → rd__law_full_sight sp__law_tags_of (endN Q) (startD 12 ds) h := by
  rintro ds h Q ⟨a, c, cs, p, v, X, N, K, U, rfl, d, P, xa, n20, gN, q⟩
  have L0 := LV.start d
  show rd__law_full_sight sp__law_tags_of (endN Q) [some (.ref p), some (worldD N K U), none, none, none, none, none, none, none, none, none, none] h
  unfold rd__law_full_sight
  walk_at "e0"
  refine ⟨by decide, ?_⟩
  intro nl nnl
  generalize enl : up _ nl _ = h1
  have L1 := L0.newE nnl enl
  unfold rd__law_full_sight_1
  walk_at "e0"
  refine ⟨by decide, ?_⟩
  intro cl ncl
  generalize ecl : up _ cl _ = h2
  have L2 := L1.newE ncl ecl
  unfold rd__law_full_sight_2
  walk_at "e0"
  refine ⟨by decide, ?_⟩
  intro tl ntl
  generalize etl : up _ tl _ = h3
  have L3 := L2.newE ntl etl
  unfold rd__law_full_sight_3
  walk_at "e0"
  rw [w_0, src_nods]
  have lti := P.ok.lti
  have ltg := P.ok.ltg
  refine ⟨fun i σ hh => ∃ (N' : List (Str × Str × List Str)) (C : List (Str × Str)) (T : List (Str × Str × Bool)) (x5 x6 x7 x8 x9 x10 x11 : Option D), LV h a c cs hh [(tl, .lst (T.map tgD)), (cl, .lst (C.map clD)), (nl, .lst (N'.map nodD))] ∧ N'.length = i ∧ C.length ≤ i * 50 ∧ T.length ≤ i * 50 ∧ (∀ n ∈ N', NdOk n) ∧ (∀ x ∈ C, ClOk x) ∧ (∀ x ∈ T, TgOk x) ∧ σ = [some (.ref p), some (worldD N K U), some (.ref nl), some (.ref cl), some (.ref tl), x5, x6, x7, x8, x9, x10, x11], Lw.of ⟨[], [], [], _, _, _, _, _, _, _, L3, rfl, Nat.le_refl _, Nat.le_refl _, by simp, by simp, by simp, rfl⟩, fun _ _ _ _ => trivial, ?_, ?_⟩
  · rintro i x σ hh hx ⟨N', C, T, x5, x6, x7, x8, x9, x10, x11, L, hN, hC, hT, gN', gC, gT, rfl⟩
    rw [List.getElem?_map] at hx
    obtain ⟨n, hn, rfl⟩ := Option.map_eq_some_iff.mp hx
    obtain ⟨hi, _⟩ := List.getElem?_eq_some_iff.mp hn
    have nok := gN n (List.mem_of_getElem? hn)
    rw [show nodD n = .tup [.str n.1, .str n.2.1, tsD n.2.2] from rfl]
    walk_at "e0"
    refine ⟨rfl, ?_⟩
    have rest : ∀ (m : List Str) (h4 : MH), NdOk (n.1, n.2.1, m) → LV h a c cs h4 [(tl, .lst (T.map tgD)), (cl, .lst (C.map clD)), (nl, .lst (N'.map nodD ++ [nodD (n.1, n.2.1, m)]))] → rd__law_full_sight_b1_1 sp__law_tags_of { nx := Lw (fun σ hh => ∃ (N' : List (Str × Str × List Str)) (C : List (Str × Str)) (T : List (Str × Str × Bool)) (x5 x6 x7 x8 x9 x10 x11 : Option D), LV h a c cs hh [(tl, .lst (T.map tgD)), (cl, .lst (C.map clD)), (nl, .lst (N'.map nodD))] ∧ N'.length = i + 1 ∧ C.length ≤ (i + 1) * 50 ∧ T.length ≤ (i + 1) * 50 ∧ (∀ n ∈ N', NdOk n) ∧ (∀ x ∈ C, ClOk x) ∧ (∀ x ∈ T, TgOk x) ∧ σ = [some (.ref p), some (worldD N K U), some (.ref nl), some (.ref cl), some (.ref tl), x5, x6, x7, x8, x9, x10, x11]), rt := (endN Q).rt, bk := rd__law_full_sight_4 sp__law_tags_of (endN Q), ct := Lw (fun σ hh => ∃ (N' : List (Str × Str × List Str)) (C : List (Str × Str)) (T : List (Str × Str × Bool)) (x5 x6 x7 x8 x9 x10 x11 : Option D), LV h a c cs hh [(tl, .lst (T.map tgD)), (cl, .lst (C.map clD)), (nl, .lst (N'.map nodD))] ∧ N'.length = i + 1 ∧ C.length ≤ (i + 1) * 50 ∧ T.length ≤ (i + 1) * 50 ∧ (∀ n ∈ N', NdOk n) ∧ (∀ x ∈ C, ClOk x) ∧ (∀ x ∈ T, TgOk x) ∧ σ = [some (.ref p), some (worldD N K U), some (.ref nl), some (.ref cl), some (.ref tl), x5, x6, x7, x8, x9, x10, x11]) }
        [some (.ref p), some (worldD N K U), some (.ref nl), some (.ref cl), some (.ref tl), some (.str n.1), some (.str n.2.1), some (tsD n.2.2), x8, x9, x10, x11] h4 := by
      intro m h4 mok L4
      have eN : N'.map nodD ++ [nodD (n.1, n.2.1, m)] = (N' ++ [(n.1, n.2.1, m)]).map nodD := by rw [List.map_append]; rfl
      rw [eN] at L4
      have N2 : (N' ++ [(n.1, n.2.1, m)]).length = i + 1 := by rw [List.length_append, hN]; rfl
      have gN2 : ∀ y ∈ N' ++ [(n.1, n.2.1, m)], NdOk y := fun u hu => by
        rcases List.mem_append.mp hu with hu | hu
        · exact gN' u hu
        · rw [List.mem_singleton.mp hu]; exact mok
      generalize N' ++ [(n.1, n.2.1, m)] = N2' at L4 N2 gN2
      unfold rd__law_full_sight_b1_1
      walk_at "e0"
      refine P.ixB L4 xa f_ties fun l el la => ?_
      rw [v_srcR, L4.old el la]
      walk_at "e0"
      refine ⟨fun j σ hh => ∃ (C : List (Str × Str)) (x8 x9 x10 : Option D), LV h a c cs hh [(tl, .lst (T.map tgD)), (cl, .lst (C.map clD)), (nl, .lst (N2'.map nodD))] ∧ C.length ≤ i * 50 + j ∧ (∀ x ∈ C, ClOk x) ∧ σ = [some (.ref p), some (worldD N K U), some (.ref nl), some (.ref cl), some (.ref tl), some (.str n.1), some (.str n.2.1), some (tsD n.2.2), x8, x9, x10, x11], Lw.of ⟨C, _, _, _, L4, hC, gC, rfl⟩, fun j σ hh ⟨_, _, _, _, L, _⟩ => L.old el la, ?_, ?_⟩
      · rintro j x σ hh hx ⟨C, x8, x9, x10, L, hC, gC, rfl⟩
        rw [List.getElem?_map] at hx
        obtain ⟨t, ht, rfl⟩ := Option.map_eq_some_iff.mp hx
        obtain ⟨hj, _⟩ := List.getElem?_eq_some_iff.mp ht
        rw [show tieD t = .tup [.str t.1, tsD t.2.1, tsD t.2.2] from rfl]
        walk_at "e0"
        refine ⟨rfl, ?_⟩
        unfold rd__law_full_sight_b2
        walk_at "e0"
        rw [in_ts]
        walk_at "e0"
        split
        · rw [L.get 1 rfl]
          refine ⟨trivial, by show 2 ≤ sizeLine; decide, ?_⟩
          walk_at "e0"
          have L5 := L.set 1 rfl (.lst ((C ++ [(n.1, t.1)]).map clD))
          rw [List.map_append] at L5
          refine ⟨sl_lt (by rw [List.length_map]; omega), Lw.of ⟨C ++ [(n.1, t.1)], _, _, _, by rw [List.map_append]; exact L5, by rw [List.length_append]; simp; omega, fun u hu => ?_, rfl⟩⟩
          rcases List.mem_append.mp hu with hu | hu
          · exact gC u hu
          · rw [List.mem_singleton.mp hu]; exact ⟨nok.a, P.ok.gti t (List.mem_of_getElem? ht)⟩
        · rw [e_next]
          exact Lw.of ⟨C, _, _, _, L, by omega, gC, rfl⟩
      · rintro σ hh ⟨C, x8, x9, x10, L, hC, gC, rfl⟩
        rw [List.length_map] at hC
        unfold rd__law_full_sight_b1_2
        walk_at "e0"
        refine P.ixB L xa f_group fun l el la => ?_
        rw [v_ninR, L.old el la]
        unfold sD
        rw [inO_s]
        walk_at "e0"
        split
        · refine ⟨p, v, X, n.2.1, rfl, P.lv L xa, fun kl nkl => ?_⟩
          generalize ekl : up _ kl _ = h5
          have L5 := L.newE nkl ekl
          have lto := tagsOf_len v n.2.1
          have mto := fun x (hx : x ∈ tagsOf v n.2.1) => tagsOf_mem hx
          generalize tagsOf v n.2.1 = F at L5 lto mto
          walk_at "e0"
          rw [L5.get 0 rfl]
          walk_at "e0"
          refine ⟨fun j σ hh => ∃ (T : List (Str × Str × Bool)) (x11 : Option D), LV h a c cs hh [(kl, .lst (F.map D.str)), (tl, .lst (T.map tgD)), (cl, .lst (C.map clD)), (nl, .lst (N2'.map nodD))] ∧ T.length ≤ i * 50 + j ∧ (∀ x ∈ T, TgOk x) ∧ σ = [some (.ref p), some (worldD N K U), some (.ref nl), some (.ref cl), some (.ref tl), some (.str n.1), some (.str n.2.1), some (tsD n.2.2), x8, x9, x10, x11], Lw.of ⟨T, _, L5, hT, gT, rfl⟩, fun j σ hh ⟨_, _, L, _⟩ => L.get 0 rfl, ?_, ?_⟩
          · rintro j x σ hh hx ⟨T, x11, L, hT, gT, rfl⟩
            rw [List.getElem?_map] at hx
            obtain ⟨f, hf, rfl⟩ := Option.map_eq_some_iff.mp hx
            obtain ⟨hj, _⟩ := List.getElem?_eq_some_iff.mp hf
            obtain ⟨r, hr, er⟩ := mto f (List.mem_of_getElem? hf)
            walk_at "e0"
            unfold rd__law_full_sight_b3
            walk_at "e0"
            rw [in_ts, L.get 1 rfl]
            refine ⟨trivial, by show 3 ≤ sizeLine; decide, ?_⟩
            walk_at "e0"
            have L6 := L.set 1 rfl (.lst ((T ++ [(n.1, f, decide (f ∈ n.2.2))]).map tgD))
            rw [List.map_append] at L6
            refine ⟨sl_lt (by rw [List.length_map]; omega), Lw.of ⟨T ++ [(n.1, f, decide (f ∈ n.2.2))], _, by rw [List.map_append]; exact L6, by rw [List.length_append]; simp; omega, fun u hu => ?_, rfl⟩⟩
            rcases List.mem_append.mp hu with hu | hu
            · exact gT u hu
            · rw [List.mem_singleton.mp hu]; exact ⟨nok.a, er ▸ P.ok.gtg r hr⟩
          · rintro σ hh ⟨T, x11, L, hT, gT, rfl⟩
            rw [List.length_map] at hT
            exact Lw.of ⟨N2', C, T, _, _, _, _, _, _, _, L.tl, N2, by omega, by omega, gN2, gC, gT, rfl⟩
        · rw [e_next]
          exact Lw.of ⟨N2', C, T, _, _, _, _, _, _, _, L, N2, by omega, by omega, gN2, gC, gT, rfl⟩
    unfold rd__law_full_sight_b1
    walk_at "e0"
    rw [L.get 2 rfl]
    refine ⟨trivial, ?_⟩
    refine P.ixB L xa f_group fun g eg ga => ?_
    rw [v_inR, L.old eg ga]
    unfold sD
    rw [inO_s]
    walk_at "e0"
    split
    · refine ⟨by show 3 ≤ sizeLine; decide, ?_⟩
      rw [L.get 2 rfl]
      walk_at "e0"
      exact ⟨sl_lt (by rw [List.length_map]; omega), rest n.2.2 _ nok (L.set 2 rfl _)⟩
    · refine ⟨by decide, by show 3 ≤ sizeLine; decide, ?_⟩
      rw [L.get 2 rfl]
      walk_at "e0"
      exact ⟨sl_lt (by rw [List.length_map]; omega), rest [] _ ⟨nok.a, nok.k, by simp, by simp⟩ (L.set 2 rfl _)⟩
  · rintro σ hh ⟨N', C, T, x5, x6, x7, x8, x9, x10, x11, L, hN, hC, hT, gN', gC, gT, rfl⟩
    rw [List.length_map] at hN hC hT
    unfold rd__law_full_sight_4
    walk_at "e0"
    rw [L.get 2 rfl]
    walk_at "e0"
    rw [w_1]
    refine srt_rows (f := clD) (l := C) (L.get 1 rfl) (by omega) (fun x _ => pure_cl x) alike_cl (fun _ => rfl) fun C2 cl2 lC2 mC2 _ ncl2 => ?_
    generalize ecl2 : up _ cl2 _ = h5
    have L5 := L.newE ncl2 ecl2
    rw [v_seqR, L5.get 0 rfl]
    walk_at "e0"
    refine srt_rows (f := tgD) (l := T) (L5.get 1 rfl) (by omega) (fun x _ => pure_tg x) alike_tg (fun _ => rfl) fun T2 tl2 lT2 mT2 _ ntl2 => ?_
    generalize etl2 : up _ tl2 _ = h6
    have L6 := L5.newE ntl2 etl2
    rw [v_seqR, L6.get 0 rfl]
    walk_at "e0"
    rw [w_2]
    refine ⟨by show 5 ≤ sizeLine; decide, ?_⟩
    exact L6.ret fun o k => q N' C2 T2 o (by omega) (by omega) (by omega) gN' (fun x hx => gC x (mC2 x hx)) (fun x hx => gT x (mT2 x hx)) k
end DL
namespace DL
open PySem PySem.Spec PyProof.Rows L2
local macro_rules | `(tactic| walk_at "ev") => `(tactic| try simp only [e_seq, e_next, e_brk, e_cnt, e_drop, e_ret, e_retN, e_ifS, e_asg, e_gN, e_gSb, e_gTp, e_gCn, e_gNl, e_var, e_varK, e_nth0, e_nthS, e_put0, e_putS, e_c, e_op, e_un, e_call, e_nil, e_cons, e_tup, e_lst, e_test, e_asB, e_tru, e_andT, e_orT, e_notT, e_andV, e_orV, e_notV, e_if, e_aug, e_augS, e_sl, e_part, e_partK, e_noPart, e_bm0, e_bm, e_join, e_yes, e_wipe0, e_wipeS, e_lc, e_for, v_add, v_addS, v_addT, v_iadd, v_sub, v_mul, v_fdiv, v_mod, v_pow, v_shl, v_shr, v_neg, v_lt, v_le, v_gt, v_ge, v_eqI, v_neI, v_eqS, v_neS, v_inS, v_ninS, v_inT, v_ninT, v_inR, v_ninR, v_inSeq, v_seqO, v_seqR, v_seqT, v_seqL, v_ixR, v_ixT, v_ixL, v_ixS, v_atK, v_atSK, v_get, v_getL, v_getK, v_set, v_setL, v_setK, v_on1, v_on2, v_lenR, v_lenT, v_lenL, v_lenS, v_seqK, v_tuple, v_list, v_abs, v_intI, v_intB, v_okL, v_isLst, v_app, v_lstK, v_slS, v_slT, v_join, v_is, v_isnot, v_max, v_min, v_iSeq, v_srcT, v_srcL, v_srcS, v_srcR, v_srcO, v_iRg1, v_rg1, v_truN, v_truB, v_truI, v_truS, v_truR, v_truT, v_truRol, v_truL, v_inRol, v_ninRol, v_inO, v_inOd, v_inDic, v_ixO, v_ixOd, v_ixSeq, v_ixDic, v_dgetK, v_ixStr, v_getO, v_getOd, v_setO, v_setOd, v_setDic, v_lenO, v_lenOd, e_dic0, e_disp, e_pairs0, e_pairsS, e_chain, v_bits, v_iRg3, v_rg3, v_iRg2, v_rg2, v_iEn, v_enT, v_enR, v_enO, v_iZp, v_zpT, v_zpR, v_zpO, v_repr, v_strI, v_strS, v_addR, v_and, v_slR, v_slL, v_ltS, v_srtT, v_srtR, v_srtO, v_srtD, v_revR, v_eqIS, v_neIS, v_eqB, v_neB])
local macro_rules | `(tactic| walk_at "e0") => `(tactic| try simp only [e_seq, e_brk, e_cnt, e_drop, e_ret, e_retN, e_ifS, e_asg, e_gN, e_gSb, e_gTp, e_gCn, e_gNl, e_var, e_varK, e_nth0, e_nthS, e_put0, e_putS, e_c, e_op, e_un, e_call, e_nil, e_cons, e_tup, e_lst, e_test, e_asB, e_tru, e_andT, e_orT, e_notT, e_andV, e_orV, e_notV, e_if, e_aug, e_augS, e_sl, e_part, e_partK, e_noPart, e_bm0, e_bm, e_join, e_yes, e_wipe0, e_wipeS, e_lc, e_for, v_add, v_addS, v_addT, v_iadd, v_sub, v_mul, v_fdiv, v_mod, v_pow, v_shl, v_shr, v_neg, v_lt, v_le, v_gt, v_ge, v_eqI, v_neI, v_eqS, v_neS, v_inS, v_ninS, v_inT, v_ninT, v_inR, v_ninR, v_inSeq, v_seqO, v_seqR, v_seqT, v_seqL, v_ixR, v_ixT, v_ixL, v_ixS, v_atK, v_atSK, v_get, v_getL, v_getK, v_set, v_setL, v_setK, v_on1, v_on2, v_lenR, v_lenT, v_lenL, v_lenS, v_seqK, v_tuple, v_list, v_abs, v_intI, v_intB, v_okL, v_isLst, v_app, v_lstK, v_slS, v_slT, v_join, v_is, v_isnot, v_max, v_min, v_iSeq, v_srcT, v_srcL, v_srcS, v_srcR, v_srcO, v_iRg1, v_rg1, v_truN, v_truB, v_truI, v_truS, v_truR, v_truT, v_truRol, v_truL, v_inRol, v_ninRol, v_inO, v_inOd, v_inDic, v_ixO, v_ixOd, v_ixSeq, v_ixDic, v_dgetK, v_ixStr, v_getO, v_getOd, v_setO, v_setOd, v_setDic, v_lenO, v_lenOd, e_dic0, e_disp, e_pairs0, e_pairsS, e_chain, v_bits, v_iRg3, v_rg3, v_iRg2, v_rg2, v_iEn, v_enT, v_enR, v_enO, v_iZp, v_zpT, v_zpR, v_zpO, v_repr, v_strI, v_strS, v_addR, v_and, v_slR, v_slL, v_ltS, v_srtT, v_srtR, v_srtO, v_srtD, v_revR, v_revT, v_isB, v_iZs, v_zsT, v_eqIS, v_neIS, v_eqB, v_neB])
def sp__law_world : P1 := fun ds h Q => ∃ (a c : Addr) (cs : List Int) (p pl : Addr) (v : Pl) (P : List Str) (many links : Nat), ds = [.ref a, .ref p, .ref pl, .int (many : Nat), .int (links : Nat)] ∧ Dr a c cs h ∧ pl ≠ a ∧ pl ≠ c ∧ h pl = some (.lst (P.map D.str)) ∧ P.length ≤ 1000 ∧ (∀ x ∈ P, GN x) ∧ PlAt h p v (fun b => b = a ∨ b = pl) ∧ many ≤ 20 ∧ links ≤ 40 ∧
  ∀ (N : List (Str × Str × List Str)) (K : List (Str × Str × Str)) (U : List (Str × Str × Int)) (P' : List Str) (o : MO), N.length ≤ 20 → (∀ n ∈ N, NdOk n) → K.length ≤ 40 → (∀ x ∈ K, LkOk x) → U.length ≤ 1000 → (∀ x ∈ U, NuOk x) → (∀ x ∈ P', x ∈ P) → P'.length ≤ P.length → DrO c o → Q (worldD N K U) (up (up h pl (.lst (P'.map D.str))) a o)
theorem len__law_world : ∀ ds h Q, sp__law_world ds h Q → ds.length = 5 := fun ds h Q ⟨_, _, _, _, _, _, _, _, _, e, _⟩ => by rw [e]; rfl
theorem PlAt.lvB {h hh : MH} {a c p pl : Addr} {cs : List Int} {ws : List (Addr × MO)} {v : Pl} {X : Addr → Prop} {x : MO} (P : PlAt h p v X) (L : LV (up h pl x) a c cs hh ws) (xa : X a) (xp : X pl) : PlAt hh p v X := ⟨P.ok, P.at_.lvB L xa xp⟩
theorem sat__law_world : ∀ ds h Q, sp__law_world ds h Q → rd__law_world sp__law_drawn_nodes sp__law_node_names sp__law_drawn_numbers sp__law_drawn_links (endN Q) (startD 6 ds) h := by
  rintro ds h Q ⟨a, c, cs, p, pl, v, P, many, links, rfl, d, pa, pc, ep, hP, gP, PA, hm, hl, q⟩
  have L0 := (LV.start d).cast (up_id ep).symm rfl
  show rd__law_world sp__law_drawn_nodes sp__law_node_names sp__law_drawn_numbers sp__law_drawn_links (endN Q) [some (.ref a), some (.ref p), some (.ref pl), some (.int (many : Nat)), some (.int (links : Nat)), none] h
  unfold rd__law_world
  walk_at "e0"
  have em : (if (many : Int) > 3 then (many : Int) else 3) = ((max 3 many : Nat) : Int) := by split <;> omega
  rw [em]
  refine ⟨a, c, cs, pl, P, max 3 many, rfl, L0.dr, pa, pc, L0.old up_same pa, hP, by omega, gP, fun Nm P1 o nl lN gN mP lP k nnl => ?_⟩
  have L1 := (L0.drawn k).base up_same pa pc (.lst (P1.map D.str))
  rw [up_up, up_com pa.symm] at L1
  have na := L0.ne nnl
  have np : nl ≠ pl := fun z => by
    have := L0.old up_same pa
    rw [← z, nnl] at this; cases this
  have L2 := L1.new (p := nl) (by rw [up_ne na, up_ne np]; exact nnl) (.lst (Nm.map D.str))
  generalize up (up (up h pl (.lst (P1.map D.str))) a o) nl (.lst (Nm.map D.str)) = h2 at L2
  have P2 := PA.lvB L2 (.inl rfl) (.inr rfl)
  refine ⟨a, c, cs, p, v, _, nl, Nm, rfl, L2.dr, na, L2.get 0 rfl, P2, .inl rfl, by omega, by omega, gN, fun N o2 lN2 gN2 mA mT k2 => ?_⟩
  have L3 := L2.drawn k2
  generalize up h2 a o2 = h3 at L3
  have P3 := PA.lvB L3 (.inl rfl) (.inr rfl)
  walk_at "e0"
  unfold rd__law_world_1
  walk_at "e0"
  refine ⟨a, c, cs, p, v, _, N, links, rfl, L3.dr, P3, .inl rfl, by omega, gN2, mA, mT, by omega, fun K o3 lK gK k3 => ?_⟩
  have L4 := L3.drawn k3
  generalize up h3 a o3 = h4 at L4
  have P4 := PA.lvB L4 (.inl rfl) (.inr rfl)
  refine ⟨a, c, cs, p, v, _, N, rfl, L4.dr, P4, .inl rfl, by omega, gN2, fun U o4 lU gU k4 => ?_⟩
  have L5 := L4.drawn k4
  generalize up h4 a o4 = h5 at L5
  walk_at "e0"
  refine ⟨by show 3 ≤ sizeLine; decide, ?_⟩
  exact L5.ret fun o k => q N K U P1 o (by omega) gN2 (by omega) gK (by omega) gU mP lP k
end DL
namespace DL
open PySem PySem.Spec PyProof.Rows L2
local macro_rules | `(tactic| walk_at "ev") => `(tactic| try simp only [e_seq, e_next, e_brk, e_cnt, e_drop, e_ret, e_retN, e_ifS, e_asg, e_gN, e_gSb, e_gTp, e_gCn, e_gNl, e_var, e_varK, e_nth0, e_nthS, e_put0, e_putS, e_c, e_op, e_un, e_call, e_nil, e_cons, e_tup, e_lst, e_test, e_asB, e_tru, e_andT, e_orT, e_notT, e_andV, e_orV, e_notV, e_if, e_aug, e_augS, e_sl, e_part, e_partK, e_noPart, e_bm0, e_bm, e_join, e_yes, e_wipe0, e_wipeS, e_lc, e_for, v_add, v_addS, v_addT, v_iadd, v_sub, v_mul, v_fdiv, v_mod, v_pow, v_shl, v_shr, v_neg, v_lt, v_le, v_gt, v_ge, v_eqI, v_neI, v_eqS, v_neS, v_inS, v_ninS, v_inT, v_ninT, v_inR, v_ninR, v_inSeq, v_seqO, v_seqR, v_seqT, v_seqL, v_ixR, v_ixT, v_ixL, v_ixS, v_atK, v_atSK, v_get, v_getL, v_getK, v_set, v_setL, v_setK, v_on1, v_on2, v_lenR, v_lenT, v_lenL, v_lenS, v_seqK, v_tuple, v_list, v_abs, v_intI, v_intB, v_okL, v_isLst, v_app, v_lstK, v_slS, v_slT, v_join, v_is, v_isnot, v_max, v_min, v_iSeq, v_srcT, v_srcL, v_srcS, v_srcR, v_srcO, v_iRg1, v_rg1, v_truN, v_truB, v_truI, v_truS, v_truR, v_truT, v_truRol, v_truL, v_inRol, v_ninRol, v_inO, v_inOd, v_inDic, v_ixO, v_ixOd, v_ixSeq, v_ixDic, v_dgetK, v_ixStr, v_getO, v_getOd, v_setO, v_setOd, v_setDic, v_lenO, v_lenOd, e_dic0, e_disp, e_pairs0, e_pairsS, e_chain, v_bits, v_iRg3, v_rg3, v_iRg2, v_rg2, v_iEn, v_enT, v_enR, v_enO, v_iZp, v_zpT, v_zpR, v_zpO, v_repr, v_strI, v_strS, v_addR, v_and, v_slR, v_slL, v_ltS, v_srtT, v_srtR, v_srtO, v_srtD, v_revR, v_eqIS, v_neIS, v_eqB, v_neB])
local macro_rules | `(tactic| walk_at "e0") => `(tactic| try simp only [e_seq, e_brk, e_cnt, e_drop, e_ret, e_retN, e_ifS, e_asg, e_gN, e_gSb, e_gTp, e_gCn, e_gNl, e_var, e_varK, e_nth0, e_nthS, e_put0, e_putS, e_c, e_op, e_un, e_call, e_nil, e_cons, e_tup, e_lst, e_test, e_asB, e_tru, e_andT, e_orT, e_notT, e_andV, e_orV, e_notV, e_if, e_aug, e_augS, e_sl, e_part, e_partK, e_noPart, e_bm0, e_bm, e_join, e_yes, e_wipe0, e_wipeS, e_lc, e_for, v_add, v_addS, v_addT, v_iadd, v_sub, v_mul, v_fdiv, v_mod, v_pow, v_shl, v_shr, v_neg, v_lt, v_le, v_gt, v_ge, v_eqI, v_neI, v_eqS, v_neS, v_inS, v_ninS, v_inT, v_ninT, v_inR, v_ninR, v_inSeq, v_seqO, v_seqR, v_seqT, v_seqL, v_ixR, v_ixT, v_ixL, v_ixS, v_atK, v_atSK, v_get, v_getL, v_getK, v_set, v_setL, v_setK, v_on1, v_on2, v_lenR, v_lenT, v_lenL, v_lenS, v_seqK, v_tuple, v_list, v_abs, v_intI, v_intB, v_okL, v_isLst, v_app, v_lstK, v_slS, v_slT, v_join, v_is, v_isnot, v_max, v_min, v_iSeq, v_srcT, v_srcL, v_srcS, v_srcR, v_srcO, v_iRg1, v_rg1, v_truN, v_truB, v_truI, v_truS, v_truR, v_truT, v_truRol, v_truL, v_inRol, v_ninRol, v_inO, v_inOd, v_inDic, v_ixO, v_ixOd, v_ixSeq, v_ixDic, v_dgetK, v_ixStr, v_getO, v_getOd, v_setO, v_setOd, v_setDic, v_lenO, v_lenOd, e_dic0, e_disp, e_pairs0, e_pairsS, e_chain, v_bits, v_iRg3, v_rg3, v_iRg2, v_rg2, v_iEn, v_enT, v_enR, v_enO, v_iZp, v_zpT, v_zpR, v_zpO, v_repr, v_strI, v_strS, v_addR, v_and, v_slR, v_slL, v_ltS, v_srtT, v_srtR, v_srtO, v_srtD, v_revR, v_revT, v_isB, v_iZs, v_zsT, v_eqIS, v_neIS, v_eqB, v_neB])
structure Rw (x : D) : Prop where
  t : ∃ xs, x = .tup xs
  p : pure? 20 x = true
  s : sh 1000 x
structure SgOk (n : D) (L C T U : List D) : Prop where
  pn : pure? 30 n = true
  sn : sh 1100000 n
  ll : L.length ≤ 1000
  lc : C.length ≤ 1000
  lt : T.length ≤ 1000
  lu : U.length ≤ 1000
  gl : ∀ x ∈ L, Rw x
  gc : ∀ x ∈ C, Rw x
  gt : ∀ x ∈ T, Rw x
  gu : ∀ x ∈ U, Rw x
theorem sh_gn {x : Str} (g : GN x) : sh 202 (.str x) := sh_str g.1 g.2
theorem Rw_lnk {x : Str × Str × Str} (g : LkOk x) : Rw (lnkD x) := by
  refine ⟨⟨_, rfl⟩, pure_lnk x, sh_up (sh_tup (c := 202) (n := 3) (fun d hd => ?_) (Nat.le_refl _)) (by decide)⟩
  rcases List.mem_cons.mp hd with rfl | hd
  · exact sh_gn g.a
  rcases List.mem_cons.mp hd with rfl | hd
  · exact sh_gn g.t
  · rw [List.mem_singleton.mp hd]; exact sh_gn g.e
theorem Rw_cl {x : Str × Str} (g : ClOk x) : Rw (clD x) := by
  refine ⟨⟨_, rfl⟩, pure_cl x, sh_up (sh_tup (c := 202) (n := 2) (fun d hd => ?_) (Nat.le_refl _)) (by decide)⟩
  rcases List.mem_cons.mp hd with rfl | hd
  · exact sh_gn g.a
  · rw [List.mem_singleton.mp hd]; exact sh_gn g.t
theorem Rw_tg {x : Str × Str × Bool} (g : TgOk x) : Rw (tgD x) := by
  refine ⟨⟨_, rfl⟩, pure_tg x, sh_up (sh_tup (c := 202) (n := 3) (fun d hd => ?_) (Nat.le_refl _)) (by decide)⟩
  rcases List.mem_cons.mp hd with rfl | hd
  · exact sh_gn g.a
  rcases List.mem_cons.mp hd with rfl | hd
  · exact sh_gn g.t
  · rw [List.mem_singleton.mp hd]; exact sh_up (sh_bool _) (by decide)
theorem Rw_num {x : Str × Str × Int} (g : NuOk x) : Rw (numD x) := by
  refine ⟨⟨_, rfl⟩, pure_num x, sh_up (sh_tup (c := 202) (n := 3) (fun d hd => ?_) (Nat.le_refl _)) (by decide)⟩
  rcases List.mem_cons.mp hd with rfl | hd
  · exact sh_gn g.a
  rcases List.mem_cons.mp hd with rfl | hd
  · exact sh_gn g.f
  · rw [List.mem_singleton.mp hd]; exact sh_up (sh_int g.w) (by decide)
theorem sh_nod {n : Str × Str × List Str} (g : NdOk n) : sh 31000 (nodD n) := by
  refine sh_up (sh_tup (c := 10203) (n := 3) (fun d hd => ?_) (Nat.le_refl _)) (by decide)
  rcases List.mem_cons.mp hd with rfl | hd
  · exact sh_up (sh_gn g.a) (by decide)
  rcases List.mem_cons.mp hd with rfl | hd
  · exact sh_up (sh_gn g.k) (by decide)
  · rw [List.mem_singleton.mp hd]
    refine sh_up (sh_tup (c := 202) (n := 50) (fun d hd => ?_) (by rw [List.length_map]; exact g.l)) (by decide)
    obtain ⟨t, ht, rfl⟩ := List.mem_map.mp hd
    exact sh_gn (g.t t ht)
theorem sh_nods {N : List (Str × Str × List Str)} (l : N.length ≤ 20) (g : ∀ n ∈ N, NdOk n) : sh 1100000 (nodsD N) := by
  refine sh_up (sh_tup (c := 31000) (n := 20) (fun d hd => ?_) (by rw [List.length_map]; exact l)) (by decide)
  obtain ⟨n, hn, rfl⟩ := List.mem_map.mp hd
  exact sh_nod (g n hn)
theorem pure_nods {N : List (Str × Str × List Str)} : pure? 30 (nodsD N) = true := by
  show pures? 29 _ = true
  refine pures_of fun x hx => ?_
  obtain ⟨n, hn, rfl⟩ := List.mem_map.mp hx
  exact pure_nod n
theorem sg_ok {N : List (Str × Str × List Str)} {K : List (Str × Str × Str)} {C : List (Str × Str)} {T : List (Str × Str × Bool)} {U : List (Str × Str × Int)} (lN : N.length ≤ 20) (gN : ∀ n ∈ N, NdOk n) (lK : K.length ≤ 40) (gK : ∀ x ∈ K, LkOk x) (lC : C.length ≤ 1000) (gC : ∀ x ∈ C, ClOk x) (lT : T.length ≤ 1000) (gT : ∀ x ∈ T, TgOk x) (lU : U.length ≤ 1000) (gU : ∀ x ∈ U, NuOk x) :
    SgOk (nodsD N) (K.map lnkD) (C.map clD) (T.map tgD) (U.map numD) :=
  ⟨pure_nods, sh_nods lN gN, by rw [List.length_map]; omega, by rw [List.length_map]; omega, by rw [List.length_map]; omega, by rw [List.length_map]; omega,
   fun x hx => by obtain ⟨y, hy, rfl⟩ := List.mem_map.mp hx; exact Rw_lnk (gK y hy), fun x hx => by obtain ⟨y, hy, rfl⟩ := List.mem_map.mp hx; exact Rw_cl (gC y hy),
   fun x hx => by obtain ⟨y, hy, rfl⟩ := List.mem_map.mp hx; exact Rw_tg (gT y hy), fun x hx => by obtain ⟨y, hy, rfl⟩ := List.mem_map.mp hx; exact Rw_num (gU y hy)⟩
section
variable {n : D} {L C T U : List D} {h : MH} {Q : KD}
theorem sg_0 : ixD (sgD n L C T U) (.int 0) h Q = Q n h := rfl
theorem sg_1 : ixD (sgD n L C T U) (.int 1) h Q = Q (.tup L) h := rfl
theorem sg_2 : ixD (sgD n L C T U) (.int 2) h Q = Q (.tup C) h := rfl
theorem sg_3 : ixD (sgD n L C T U) (.int 3) h Q = Q (.tup T) h := rfl
theorem sg_4 : ixD (sgD n L C T U) (.int 4) h Q = Q (.tup U) h := rfl
end
theorem cut2_pure {xs : List D} {n : Nat} (p : pure? (n + 1) (.tup xs) = true) : pure? (n + 1) (.tup (cutD xs none (some 2))) = true := by
  rw [show (2 : Int) = ((2 : Nat) : Int) from rfl, cut_k]
  show pures? n _ = true
  exact pures_of fun x hx => pures_mem (show pures? n xs = true from p) (List.mem_of_mem_take hx)
theorem map_idd (l : List D) : l.map (fun d => d) = l := List.map_id' l
def sp__law_drawn_sight : P1 := fun ds h Q => ∃ (a c : Addr) (cs : List Int) (p : Addr) (v : Pl) (X : Addr → Prop) (N : List (Str × Str × List Str)) (K : List (Str × Str × Str)) (U : List (Str × Str × Int)) (share : Nat), ds = [.ref a, .ref p, worldD N K U, .int (share : Nat)] ∧ Dr a c cs h ∧ PlAt h p v X ∧ X a ∧ N.length ≤ 20 ∧ (∀ n ∈ N, NdOk n) ∧ K.length ≤ 40 ∧ (∀ x ∈ K, LkOk x) ∧ U.length ≤ 1000 ∧ (∀ x ∈ U, NuOk x) ∧ 0 < share ∧ share ≤ 100 ∧
  ∀ (n : D) (L C T U : List D) (o : MO), SgOk n L C T U → DrO c o → Q (sgD n L C T U) (up h a o)
theorem len__law_drawn_sight : ∀ ds h Q, sp__law_drawn_sight ds h Q → ds.length = 4 := fun ds h Q ⟨_, _, _, _, _, _, _, _, _, _, e, _⟩ => by rw [e]; rfl
theorem sat__law_drawn_sight : ∀ ds h Q, sp__law_drawn_sight ds h Q → rd__law_drawn_sight sp__law_full_sight sp__law_draw (endN Q) (startD 10 ds) h := by
  rintro ds h Q ⟨a, c, cs, p, v, X, N, K, U, share, rfl, d, P, xa, n20, gN, lK, gK, lU, gU, s0, s1, q⟩
  have L0 := LV.start d
  show rd__law_drawn_sight sp__law_full_sight sp__law_draw (endN Q) [some (.ref a), some (.ref p), some (worldD N K U), some (.int (share : Nat)), none, none, none, none, none, none] h
  unfold rd__law_drawn_sight
  walk_at "e0"
  refine ⟨a, c, cs, p, v, X, N, K, U, rfl, d, P, xa, n20, gN, fun N' C T o lN lC lT gN' gC gT k => ?_⟩
  have ok := sg_ok lN gN' lK gK lC gC lT gT lU gU
  have L1 := L0.drawn k
  generalize up h a o = h1 at L1
  generalize nodsD N' = n at ok
  generalize K.map lnkD = Lr at ok
  generalize C.map clD = Cr at ok
  generalize T.map tgD = Tr at ok
  generalize U.map numD = Ur at ok
  walk_at "e0"
  unfold rd__law_drawn_sight_1
  walk_at "e0"
  rw [sg_2, v_srcT]
  refine lcT_sub L1 Cr (fun d => d) (fun d => d) (map_idd _).symm (by have := ok.lc; omega) (fun _ _ => trivial) (fun y hy h2 Q' R' L2 hQ hR' => ?_) fun C1 c1 h2 subC _ L2 => ?_
  · walk_at "e0"
    refine L2.draw (by omega) (by omega) fun r h3 r0 r1 L3 => ?_
    walk_at "e0"
    by_cases z : r > 0
    · rw [if_pos (decide_eq_true z)]; exact hQ _ L3
    · rw [if_neg (by rw [decide_eq_true_eq]; exact z)]; exact hR' _ L3
  walk_at "e0"
  rw [L2.get 0 rfl, map_idd]
  walk_at "e0"
  unfold rd__law_drawn_sight_2
  walk_at "e0"
  rw [sg_1, v_srcT]
  have gC1 : ∀ x ∈ C1, Rw x := fun x hx => ok.gc x (subC.subset hx)
  have pC1 : pures? 60 C1 = true := pures_of fun x hx => pure_le (by decide) _ (gC1 x hx).p
  refine lcT_sub L2 Lr (fun d => d) (fun d => d) (map_idd _).symm (by have := ok.ll; omega) (fun _ _ => trivial) (fun y hy h2 Q' R' M2 hQ hR' => ?_) fun L1' c3 h3 subL _ L3 => ?_
  · walk_at "e0"
    obtain ⟨xs, rfl⟩ := (ok.gl y hy).t
    walk_at "e0"
    refine ⟨pure_le (by decide) _ (cut2_pure (n := 19) (ok.gl _ hy).p), pC1, ?_⟩
    walk_at "e0"
    split
    · rw [if_pos trivial]; exact hQ _ M2
    refine M2.draw (by omega) (by omega) fun r h3 r0 r1 M3 => ?_
    walk_at "e0"
    by_cases z : r > 0
    · rw [if_pos (decide_eq_true z)]; exact hQ _ M3
    · rw [if_neg (by rw [decide_eq_true_eq]; exact z)]; exact hR' _ M3
  walk_at "e0"
  rw [L3.get 0 rfl, map_idd]
  walk_at "e0"
  unfold rd__law_drawn_sight_3
  walk_at "e0"
  rw [sg_3, v_srcT]
  refine lcT_sub L3 Tr (fun d => d) (fun d => d) (map_idd _).symm (by have := ok.lt; omega) (fun _ _ => trivial) (fun y hy h2 Q' R' M2 hQ hR' => ?_) fun T1 c4 h4 subT _ L4 => ?_
  · walk_at "e0"
    refine M2.draw (by omega) (by omega) fun r h3 r0 r1 M3 => ?_
    walk_at "e0"
    by_cases z : r > 0
    · rw [if_pos (decide_eq_true z)]; exact hQ _ M3
    · rw [if_neg (by rw [decide_eq_true_eq]; exact z)]; exact hR' _ M3
  walk_at "e0"
  rw [L4.get 0 rfl, map_idd]
  walk_at "e0"
  unfold rd__law_drawn_sight_4
  walk_at "e0"
  rw [sg_4, v_srcT]
  refine lcT_sub L4 Ur (fun d => d) (fun d => d) (map_idd _).symm (by have := ok.lu; omega) (fun _ _ => trivial) (fun y hy h2 Q' R' M2 hQ hR' => ?_) fun U1 c5 h5 subU _ L5 => ?_
  · walk_at "e0"
    refine M2.draw (by omega) (by omega) fun r h3 r0 r1 M3 => ?_
    walk_at "e0"
    by_cases z : r > 0
    · rw [if_pos (decide_eq_true z)]; exact hQ _ M3
    · rw [if_neg (by rw [decide_eq_true_eq]; exact z)]; exact hR' _ M3
  walk_at "e0"
  rw [L5.get 0 rfl, map_idd]
  walk_at "e0"
  unfold rd__law_drawn_sight_5
  walk_at "e0"
  rw [sg_0]
  refine ⟨by show 5 ≤ sizeLine; decide, ?_⟩
  have b1 := subC.length_le
  have b2 := subL.length_le
  have b3 := subT.length_le
  have b4 := subU.length_le
  have k1 := ok.ll
  have k2 := ok.lc
  have k3 := ok.lt
  have k4 := ok.lu
  exact L5.ret fun o k => q n L1' C1 T1 U1 o ⟨ok.pn, ok.sn, by omega, by omega, by omega, by omega, fun x hx => ok.gl x (subL.subset hx), gC1, fun x hx => ok.gt x (subT.subset hx), fun x hx => ok.gu x (subU.subset hx)⟩ k
def sp__law_one_sight : P1 := fun ds h Q => ∃ (a c : Addr) (cs : List Int) (p pl : Addr) (v : Pl) (P : List Str), ds = [.ref a, .ref p, .ref pl] ∧ Dr a c cs h ∧ pl ≠ a ∧ pl ≠ c ∧ h pl = some (.lst (P.map D.str)) ∧ P.length ≤ 1000 ∧ (∀ x ∈ P, GN x) ∧ PlAt h p v (fun b => b = a ∨ b = pl) ∧
  ∀ (n : D) (L C T U : List D) (P' : List Str) (o : MO), SgOk n L C T U → (∀ x ∈ P', x ∈ P) → P'.length ≤ P.length → DrO c o → Q (sgD n L C T U) (up (up h pl (.lst (P'.map D.str))) a o)
theorem len__law_one_sight : ∀ ds h Q, sp__law_one_sight ds h Q → ds.length = 3 := fun ds h Q ⟨_, _, _, _, _, _, _, e, _⟩ => by rw [e]; rfl
theorem sat__law_one_sight : ∀ ds h Q, sp__law_one_sight ds h Q → rd__law_one_sight sp__law_rare sp__law_draw sp__law_world sp__law_full_sight sp__law_drawn_sight (endN Q) (startD 7 ds) h := by
  rintro ds h Q ⟨a, c, cs, p, pl, v, P, rfl, d, pa, pc, ep, hP, gP, PA, q⟩
  have L0 := (LV.start d).cast (up_id ep).symm rfl
  show rd__law_one_sight sp__law_rare sp__law_draw sp__law_world sp__law_full_sight sp__law_drawn_sight (endN Q) [some (.ref a), some (.ref p), some (.ref pl), none, none, none, none] h
  have main : ∀ (many : Nat) (h1 : MH), many ≤ 20 → LV (up h pl (.lst (P.map D.str))) a c cs h1 [] → rd__law_one_sight_1 sp__law_rare sp__law_draw sp__law_world sp__law_full_sight sp__law_drawn_sight (endN Q) [some (.ref a), some (.ref p), some (.ref pl), some (.int (many : Nat)), none, none, none] h1 := by
    intro many h1 hm L1
    have P1 := PA.lvB L1 (.inl rfl) (.inr rfl)
    unfold rd__law_one_sight_1
    walk_at "e0"
    refine ⟨mulOk_r ⟨by omega, by omega⟩, ?_⟩
    refine ⟨a, c, cs, p, pl, v, P, many, 2 * many, by rw [show ((2 * many : Nat) : Int) = 2 * (many : Int) by omega], L1.dr, pa, pc, L1.old up_same pa, hP, gP, P1, hm, by omega, fun N K U P' o lN gN lK gK lU gU sP lP k => ?_⟩
    have L2 := (L1.drawn k).base up_same pa pc (.lst (P'.map D.str))
    rw [up_up, up_com pa.symm] at L2
    generalize up (up h1 pl (.lst (P'.map D.str))) a o = h2 at L2
    walk_at "e0"
    unfold rd__law_one_sight_2
    walk_at "e0"
    refine L2.draw (by decide) (by decide) fun w h3 w0 w1 L3 => ?_
    have P3 := PA.lvB L3 (.inl rfl) (.inr rfl)
    walk_at "e0"
    unfold rd__law_one_sight_3
    walk_at "e0"
    split
    · refine ⟨a, c, cs, p, v, _, N, K, U, rfl, L3.dr, P3, .inl rfl, lN, gN, fun N' C T o lN lC lT gN' gC gT k => ?_⟩
      exact (L3.drawn k).ret fun o k => q _ _ _ _ _ P' o (sg_ok lN gN' lK gK lC gC lT gT lU gU) sP lP k
    rw [e_next]
    unfold rd__law_one_sight_4
    walk_at "e0"
    refine L3.draw (by decide) (by decide) fun r h4 r0 r1 L4 => ?_
    have P4 := PA.lvB L4 (.inl rfl) (.inr rfl)
    obtain ⟨r, rfl⟩ := Int.eq_ofNat_of_zero_le r0
    refine ⟨a, c, cs, p, v, _, N, K, U, 2 + r, by rw [show ((2 + r : Nat) : Int) = 2 + (r : Int) by omega], L4.dr, P4, .inl rfl, lN, gN, lK, gK, lU, gU, by omega, by omega, fun n L C T U o ok k => ?_⟩
    have L5 := L4.drawn k
    generalize up h4 a o = h5 at L5
    walk_at "e0"
    unfold rd__law_one_sight_5
    walk_at "e0"
    split
    · rw [sg_0, sg_1, sg_3, sg_4]
      refine ⟨by decide, by show 5 ≤ sizeLine; decide, ?_⟩
      exact L5.ret fun o k => q n L [] T U P' o ⟨ok.pn, ok.sn, ok.ll, by simp, ok.lt, ok.lu, ok.gl, by simp, ok.gt, ok.gu⟩ sP lP k
    rw [e_next]
    unfold rd__law_one_sight_6
    walk_at "e0"
    split
    · exact L5.ret fun o k => q n L C T U P' o ok sP lP k
    · rw [sg_0]
      refine ⟨by decide, by decide, by decide, by decide, by show 5 ≤ sizeLine; decide, ?_⟩
      exact L5.ret fun o k => q n [] [] [] [] P' o ⟨ok.pn, ok.sn, by simp, by simp, by simp, by simp, by simp, by simp, by simp, by simp⟩ sP lP k
  unfold rd__law_one_sight
  walk_at "e0"
  refine L0.rare (by decide) (by decide) fun b h1 L1 => ?_
  walk_at "e0"
  cases b with
  | true => rw [if_pos rfl]; exact main 20 h1 (by omega) L1
  | false =>
    rw [if_neg (by decide)]
    refine L1.draw (by decide) (by decide) fun r h2 r0 r1 L2 => ?_
    obtain ⟨r, rfl⟩ := Int.eq_ofNat_of_zero_le r0
    have := main (2 + r) h2 (by omega) L2
    rw [show ((2 + r : Nat) : Int) = 2 + (r : Int) by omega] at this
    exact this
end DL
namespace DL
open PySem PySem.Spec PyProof.Rows L2
local macro_rules | `(tactic| walk_at "ev") => `(tactic| try simp only [e_seq, e_next, e_brk, e_cnt, e_drop, e_ret, e_retN, e_ifS, e_asg, e_gN, e_gSb, e_gTp, e_gCn, e_gNl, e_var, e_varK, e_nth0, e_nthS, e_put0, e_putS, e_c, e_op, e_un, e_call, e_nil, e_cons, e_tup, e_lst, e_test, e_asB, e_tru, e_andT, e_orT, e_notT, e_andV, e_orV, e_notV, e_if, e_aug, e_augS, e_sl, e_part, e_partK, e_noPart, e_bm0, e_bm, e_join, e_yes, e_wipe0, e_wipeS, e_lc, e_for, v_add, v_addS, v_addT, v_iadd, v_sub, v_mul, v_fdiv, v_mod, v_pow, v_shl, v_shr, v_neg, v_lt, v_le, v_gt, v_ge, v_eqI, v_neI, v_eqS, v_neS, v_inS, v_ninS, v_inT, v_ninT, v_inR, v_ninR, v_inSeq, v_seqO, v_seqR, v_seqT, v_seqL, v_ixR, v_ixT, v_ixL, v_ixS, v_atK, v_atSK, v_get, v_getL, v_getK, v_set, v_setL, v_setK, v_on1, v_on2, v_lenR, v_lenT, v_lenL, v_lenS, v_seqK, v_tuple, v_list, v_abs, v_intI, v_intB, v_okL, v_isLst, v_app, v_lstK, v_slS, v_slT, v_join, v_is, v_isnot, v_max, v_min, v_iSeq, v_srcT, v_srcL, v_srcS, v_srcR, v_srcO, v_iRg1, v_rg1, v_truN, v_truB, v_truI, v_truS, v_truR, v_truT, v_truRol, v_truL, v_inRol, v_ninRol, v_inO, v_inOd, v_inDic, v_ixO, v_ixOd, v_ixSeq, v_ixDic, v_dgetK, v_ixStr, v_getO, v_getOd, v_setO, v_setOd, v_setDic, v_lenO, v_lenOd, e_dic0, e_disp, e_pairs0, e_pairsS, e_chain, v_bits, v_iRg3, v_rg3, v_iRg2, v_rg2, v_iEn, v_enT, v_enR, v_enO, v_iZp, v_zpT, v_zpR, v_zpO, v_repr, v_strI, v_strS, v_addR, v_and, v_slR, v_slL, v_ltS, v_srtT, v_srtR, v_srtO, v_srtD, v_revR, v_eqIS, v_neIS, v_eqB, v_neB])
local macro_rules | `(tactic| walk_at "e0") => `(tactic| try simp only [e_seq, e_brk, e_cnt, e_drop, e_ret, e_retN, e_ifS, e_asg, e_gN, e_gSb, e_gTp, e_gCn, e_gNl, e_var, e_varK, e_nth0, e_nthS, e_put0, e_putS, e_c, e_op, e_un, e_call, e_nil, e_cons, e_tup, e_lst, e_test, e_asB, e_tru, e_andT, e_orT, e_notT, e_andV, e_orV, e_notV, e_if, e_aug, e_augS, e_sl, e_part, e_partK, e_noPart, e_bm0, e_bm, e_join, e_yes, e_wipe0, e_wipeS, e_lc, e_for, v_add, v_addS, v_addT, v_iadd, v_sub, v_mul, v_fdiv, v_mod, v_pow, v_shl, v_shr, v_neg, v_lt, v_le, v_gt, v_ge, v_eqI, v_neI, v_eqS, v_neS, v_inS, v_ninS, v_inT, v_ninT, v_inR, v_ninR, v_inSeq, v_seqO, v_seqR, v_seqT, v_seqL, v_ixR, v_ixT, v_ixL, v_ixS, v_atK, v_atSK, v_get, v_getL, v_getK, v_set, v_setL, v_setK, v_on1, v_on2, v_lenR, v_lenT, v_lenL, v_lenS, v_seqK, v_tuple, v_list, v_abs, v_intI, v_intB, v_okL, v_isLst, v_app, v_lstK, v_slS, v_slT, v_join, v_is, v_isnot, v_max, v_min, v_iSeq, v_srcT, v_srcL, v_srcS, v_srcR, v_srcO, v_iRg1, v_rg1, v_truN, v_truB, v_truI, v_truS, v_truR, v_truT, v_truRol, v_truL, v_inRol, v_ninRol, v_inO, v_inOd, v_inDic, v_ixO, v_ixOd, v_ixSeq, v_ixDic, v_dgetK, v_ixStr, v_getO, v_getOd, v_setO, v_setOd, v_setDic, v_lenO, v_lenOd, e_dic0, e_disp, e_pairs0, e_pairsS, e_chain, v_bits, v_iRg3, v_rg3, v_iRg2, v_rg2, v_iEn, v_enT, v_enR, v_enO, v_iZp, v_zpT, v_zpR, v_zpO, v_repr, v_strI, v_strS, v_addR, v_and, v_slR, v_slL, v_ltS, v_srtT, v_srtR, v_srtO, v_srtD, v_revR, v_revT, v_isB, v_iZs, v_zsT, v_eqIS, v_neIS, v_eqB, v_neB])
def hd2 : D → D
  | .tup xs => .tup (cutD xs none (some 2))
  | x => x
def wo (l : List D) (r : D) : List D := l.filter fun x => !eqF x r
theorem Rw.hd {x : D} (g : Rw x) : pure? 60 (hd2 x) = true := by
  obtain ⟨xs, rfl⟩ := g.t
  exact pure_le (by decide) _ (cut2_pure (n := 19) g.p)
theorem less_in {s : D} {part : Int} {R C A B : List D} (hx : ∀ (h : MH) (Q : KD), ixD s (.int part) h Q = Q (.tup R) h) (h2 : ∀ (h : MH) (Q : KD), ixD s (.int 2) h Q = Q (.tup C) h)
    (hA : ∀ (h : MH) (Q : KD), slD s none (some part) h Q = Q (.tup A) h) (hB : ∀ (h : MH) (Q : KD), slD s (some (part + 1)) none h Q = Q (.tup B) h) (lA : A.length ≤ 5) (lB : B.length ≤ 5)
    (gR : ∀ x ∈ R, Rw x) (lR : R.length ≤ 1000) (gC : ∀ x ∈ C, Rw x) (keep : D → Bool) (hk : part ≠ 1 → ∀ r, keep r = true) (hk1 : part = 1 → ∀ r, keep r = !C.any fun z => eqF z (hd2 r))
    {h : MH} {fl : Addr} (nfl : h fl = none) {acc : List D} (la : acc.length ≤ 5000) {x3 x4 : Option D} (N : Nd)
    (q : ∀ x3 x4, N.nx [some s, some (.ref fl), some (.int part), x3, x4, none] (up h fl (.lst (acc ++ (R.filter keep).map fun r => .tup (A ++ [.tup (wo R r)] ++ B))))) :
    rd__law_lesser_b1 N [some s, some (.ref fl), some (.int part), x3, x4, none] (up h fl (.lst acc)) := by
  unfold rd__law_lesser_b1
  walk_at "e0"
  rw [hx, v_srcT]
  refine ⟨fun i σ hh => ∃ x3 x4, hh = up h fl (.lst (acc ++ ((R.take i).filter keep).map fun r => .tup (A ++ [.tup (wo R r)] ++ B))) ∧ σ = [some s, some (.ref fl), some (.int part), x3, x4, none], Lw.of ⟨_, _, by simp, rfl⟩, fun _ _ _ _ => trivial, ?_, ?_⟩
  · rintro i x σ hh hx' ⟨x3, x4, rfl, rfl⟩
    obtain ⟨hi, ex⟩ := List.getElem?_eq_some_iff.mp hx'
    have gx := gR x (List.mem_of_getElem? hx')
    have et : R.take (i + 1) = R.take i ++ [x] := by rw [List.take_succ_eq_append_getElem hi, ex]
    walk_at "e0"
    unfold rd__law_lesser_b2
    walk_at "e0"
    have skip : keep x = false → Lw (fun σ hh => ∃ x3 x4, hh = up h fl (.lst (acc ++ ((R.take (i + 1)).filter keep).map fun r => .tup (A ++ [.tup (wo R r)] ++ B))) ∧ σ = [some s, some (.ref fl), some (.int part), x3, x4, none]) [some s, some (.ref fl), some (.int part), some x, x4, none] (up h fl (.lst (acc ++ ((R.take i).filter keep).map fun r => .tup (A ++ [.tup (wo R r)] ++ B)))) := fun e => by
      refine Lw.of ⟨_, _, ?_, rfl⟩
      rw [et, List.filter_append, List.filter_cons, e]
      simp
    have lk := List.length_filter_le keep (R.take i)
    have lti : (R.take i).length ≤ 1000 := by rw [List.length_take]; omega
    have add : keep x = true → (dSeq (dAsg (dCall (on1 tupleD) (dCons (dLc (iSeq (dOp ixD (dVar 0) (dVar 2))) (gN 5) (dTest (dOp neD (dVar 5) (dVar 3))) (dVar 5) [5]) dNil)) (gN 4))
        (dDrop (dBM okL appendD (dVar 1) (dCons (dOp addD (dOp addD (dSl (dVar 0) dNoPart (dPart (dVar 2))) (dTup (dCons (dVar 4) dNil))) (dSl (dVar 0) (dPart (dOp addD (dVar 2) (dC (.int 1)))) dNoPart)) dNil)))) { nx := Lw (fun σ hh => ∃ x3 x4, hh = up h fl (.lst (acc ++ ((R.take (i + 1)).filter keep).map fun r => .tup (A ++ [.tup (wo R r)] ++ B))) ∧ σ = [some s, some (.ref fl), some (.int part), x3, x4, none]), rt := N.rt, bk := N.nx, ct := Lw (fun σ hh => ∃ x3 x4, hh = up h fl (.lst (acc ++ ((R.take (i + 1)).filter keep).map fun r => .tup (A ++ [.tup (wo R r)] ++ B))) ∧ σ = [some s, some (.ref fl), some (.int part), x3, x4, none]) }
        [some s, some (.ref fl), some (.int part), some x, x4, none] (up h fl (.lst (acc ++ ((R.take i).filter keep).map fun r => .tup (A ++ [.tup (wo R r)] ++ B)))) := fun e => by
      have eacc : acc ++ ((R.take (i + 1)).filter keep).map (fun r => D.tup (A ++ [.tup (wo R r)] ++ B)) = (acc ++ ((R.take i).filter keep).map fun r => D.tup (A ++ [.tup (wo R r)] ++ B)) ++ [.tup (A ++ [.tup (wo R x)] ++ B)] := by
        rw [et, List.filter_append, List.filter_cons, e]
        simp
      have ll : (acc ++ ((R.take i).filter keep).map fun r => D.tup (A ++ [.tup (wo R r)] ++ B)).length ≤ 6000 := by rw [List.length_append, List.length_map]; omega
      rw [eacc]
      generalize (acc ++ ((R.take i).filter keep).map fun r => D.tup (A ++ [.tup (wo R r)] ++ B)) = ac at ll
      walk_at "e0"
      rw [hx, v_srcT]
      refine lcT_tf R (fun d => d) (fun d => d) (fun y => !eqF y x) (map_idd _).symm (Nat.le_of_lt (sl_lt (by omega))) trivial (fun y hy Q' R' hQ hR => ?_) fun p2 np2 => ?_
      · walk_at "e0"
        rw [neD_pure (pure_le (by decide) _ (gR y hy).p) (pure_le (by decide) _ gx.p)]
        walk_at "e0"
        cases z : (!eqF y x) with
        | true => rw [if_pos rfl]; exact hQ z _ le.refl
        | false => rw [if_neg (by decide)]; exact hR z _ le.refl
      rw [map_idd, show R.filter (fun y => !eqF y x) = wo R x from rfl]
      have pf : fl ≠ p2 := fun z => by rw [← z, up_same] at np2; cases np2
      rw [v_seqR, up_same]
      walk_at "e0"
      rw [up_ne pf, up_same]
      refine ⟨trivial, ?_⟩
      rw [hA]
      refine ⟨by show 1 ≤ sizeLine; decide, ?_⟩
      walk_at "e0"
      refine ⟨by show A.length + 1 ≤ sizeLine; exact Nat.le_of_lt (sl_lt (by omega)), ?_⟩
      rw [hB]
      walk_at "e0"
      refine ⟨by rw [List.length_append]; show A.length + 1 + B.length ≤ sizeLine; exact Nat.le_of_lt (sl_lt (by omega)), ?_⟩
      rw [up_ne pf, up_same]
      walk_at "e0"
      refine ⟨sl_lt (by omega), ?_⟩
      have np : h p2 = none := by rw [up_ne pf.symm] at np2; exact np2
      refine ⟨_, _, leS.refl, ?_, ⟨_, _, rfl, rfl⟩⟩
      rw [up_com pf.symm, up_up]
      exact le.up (by rw [up_ne pf.symm]; exact np)
    by_cases p1 : part = 1
    · rw [if_neg (by rw [decide_eq_true p1]; decide)]
      obtain ⟨xs, rfl⟩ := gx.t
      walk_at "e0"
      rw [h2]
      walk_at "e0"
      refine ⟨gx.hd, pures_of fun y hy => pure_le (by decide) _ (gC y hy).p, ?_⟩
      have hk2 : keep (.tup xs) = !C.any fun z => eqF z (.tup (cutD xs none (some 2))) := hk1 p1 (.tup xs)
      cases z : (C.any fun z => eqF z (.tup (cutD xs none (some 2)))) with
      | true => rw [if_neg (by decide), e_next]; exact skip (by rw [hk2, z]; rfl)
      | false => rw [if_pos (by rfl)]; exact add (by rw [hk2, z]; rfl)
    · rw [if_pos (by rw [decide_eq_false p1]; rfl), if_pos trivial]
      exact add (hk p1 x)
  · rintro σ hh ⟨x3, x4, rfl, rfl⟩
    rw [List.take_length]
    exact q x3 x4
def lessD (n : D) (L C T U : List D) : List D :=
  (C.map fun r => sgD n L (wo C r) T U) ++ ((L.filter fun r => !C.any fun z => eqF z (hd2 r)).map fun r => sgD n (wo L r) C T U) ++ (T.map fun r => sgD n L C (wo T r) U) ++ (U.map fun r => sgD n L C T (wo U r))
theorem filt_true (l : List D) : l.filter (fun _ => true) = l := List.filter_eq_self.mpr fun _ _ => rfl
def sp__law_lesser : P1 := fun ds h Q => ∃ (n : D) (L C T U : List D), ds = [sgD n L C T U] ∧ SgOk n L C T U ∧ ∀ p, h p = none → Q (.ref p) (up h p (.lst (lessD n L C T U)))
theorem len__law_lesser : ∀ ds h Q, sp__law_lesser ds h Q → ds.length = 1 := fun ds h Q ⟨_, _, _, _, _, e, _⟩ => by rw [e]; rfl
theorem sat__law_lesser : ∀ ds h Q, sp__law_lesser ds h Q → rd__law_lesser (endN Q) (startD 6 ds) h := by
  rintro ds h Q ⟨n, L, C, T, U, rfl, ok, q⟩
  show rd__law_lesser (endN Q) [some (sgD n L C T U), none, none, none, none, none] h
  have k1 := ok.ll
  have k2 := ok.lc
  have k3 := ok.lt
  have k4 := ok.lu
  unfold rd__law_lesser
  walk_at "e0"
  refine ⟨by decide, ?_⟩
  intro fl nfl
  unfold rd__law_lesser_1
  walk_at "e0"
  have fk := List.length_filter_le (fun r => !C.any fun z => eqF z (hd2 r)) L
  refine ⟨by show 4 ≤ sizeLine; decide, fun i σ hh => ∃ x2 x3 x4, hh = up h fl (.lst (([C.map fun r => sgD n L (wo C r) T U, (L.filter fun r => !C.any fun z => eqF z (hd2 r)).map fun r => sgD n (wo L r) C T U, T.map fun r => sgD n L C (wo T r) U, U.map fun r => sgD n L C T (wo U r)].take i).flatten)) ∧ σ = [some (sgD n L C T U), some (.ref fl), x2, x3, x4, none], Lw.of ⟨_, _, _, rfl, rfl⟩, fun _ _ _ _ => trivial, ?_, ?_⟩
  · rintro i x σ hh hx ⟨x2, x3, x4, rfl, rfl⟩
    have hi := (List.getElem?_eq_some_iff.mp hx).1
    have hi4 : i < 4 := hi
    walk_at "e0"
    match i, hi4, hx with
    | 0, _, hx =>
      cases hx
      refine less_in (R := C) (C := C) (A := [n, .tup L]) (B := [.tup T, .tup U]) (fun _ _ => sg_2) (fun _ _ => sg_2) (fun _ _ => rfl) (fun _ _ => rfl) (by simp) (by simp) ok.gc k2 ok.gc (fun _ => true) (fun _ _ => rfl) (fun z => absurd z (by decide)) nfl (by simp) _ fun x3 x4 => ?_
      rw [filt_true]
      exact Lw.of ⟨_, _, _, by simp; rfl, rfl⟩
    | 1, _, hx =>
      cases hx
      refine less_in (R := L) (C := C) (A := [n]) (B := [.tup C, .tup T, .tup U]) (fun _ _ => sg_1) (fun _ _ => sg_2) (fun _ _ => rfl) (fun _ _ => rfl) (by simp) (by simp) ok.gl k1 ok.gc (fun r => !C.any fun z => eqF z (hd2 r)) (fun z => absurd rfl z) (fun _ _ => rfl) nfl (by simp; omega) _ fun x3 x4 => ?_
      exact Lw.of ⟨_, _, _, by simp; rfl, rfl⟩
    | 2, _, hx =>
      cases hx
      refine less_in (R := T) (C := C) (A := [n, .tup L, .tup C]) (B := [.tup U]) (fun _ _ => sg_3) (fun _ _ => sg_2) (fun _ _ => rfl) (fun _ _ => rfl) (by simp) (by simp) ok.gt k3 ok.gc (fun _ => true) (fun _ _ => rfl) (fun z => absurd z (by decide)) nfl (by simp; omega) _ fun x3 x4 => ?_
      rw [filt_true]
      exact Lw.of ⟨_, _, _, by simp; rfl, rfl⟩
    | 3, _, hx =>
      cases hx
      refine less_in (R := U) (C := C) (A := [n, .tup L, .tup C, .tup T]) (B := []) (fun _ _ => sg_4) (fun _ _ => sg_2) (fun _ _ => rfl) (fun _ _ => rfl) (by simp) (by simp) ok.gu k4 ok.gc (fun _ => true) (fun _ _ => rfl) (fun z => absurd z (by decide)) nfl (by simp; omega) _ fun x3 x4 => ?_
      rw [filt_true]
      exact Lw.of ⟨_, _, _, by simp; rfl, rfl⟩
  · rintro σ hh ⟨x2, x3, x4, rfl, rfl⟩
    unfold rd__law_lesser_2
    walk_at "e0"
    have := q fl nfl
    unfold lessD at this
    refine lh_le le.refl ?_
    simpa using this
end DL
namespace DL
open PySem PySem.Spec PyProof.Rows L2
local macro_rules | `(tactic| walk_at "ev") => `(tactic| try simp only [e_seq, e_next, e_brk, e_cnt, e_drop, e_ret, e_retN, e_ifS, e_asg, e_gN, e_gSb, e_gTp, e_gCn, e_gNl, e_var, e_varK, e_nth0, e_nthS, e_put0, e_putS, e_c, e_op, e_un, e_call, e_nil, e_cons, e_tup, e_lst, e_test, e_asB, e_tru, e_andT, e_orT, e_notT, e_andV, e_orV, e_notV, e_if, e_aug, e_augS, e_sl, e_part, e_partK, e_noPart, e_bm0, e_bm, e_join, e_yes, e_wipe0, e_wipeS, e_lc, e_for, v_add, v_addS, v_addT, v_iadd, v_sub, v_mul, v_fdiv, v_mod, v_pow, v_shl, v_shr, v_neg, v_lt, v_le, v_gt, v_ge, v_eqI, v_neI, v_eqS, v_neS, v_inS, v_ninS, v_inT, v_ninT, v_inR, v_ninR, v_inSeq, v_seqO, v_seqR, v_seqT, v_seqL, v_ixR, v_ixT, v_ixL, v_ixS, v_atK, v_atSK, v_get, v_getL, v_getK, v_set, v_setL, v_setK, v_on1, v_on2, v_lenR, v_lenT, v_lenL, v_lenS, v_seqK, v_tuple, v_list, v_abs, v_intI, v_intB, v_okL, v_isLst, v_app, v_lstK, v_slS, v_slT, v_join, v_is, v_isnot, v_max, v_min, v_iSeq, v_srcT, v_srcL, v_srcS, v_srcR, v_srcO, v_iRg1, v_rg1, v_truN, v_truB, v_truI, v_truS, v_truR, v_truT, v_truRol, v_truL, v_inRol, v_ninRol, v_inO, v_inOd, v_inDic, v_ixO, v_ixOd, v_ixSeq, v_ixDic, v_dgetK, v_ixStr, v_getO, v_getOd, v_setO, v_setOd, v_setDic, v_lenO, v_lenOd, e_dic0, e_disp, e_pairs0, e_pairsS, e_chain, v_bits, v_iRg3, v_rg3, v_iRg2, v_rg2, v_iEn, v_enT, v_enR, v_enO, v_iZp, v_zpT, v_zpR, v_zpO, v_repr, v_strI, v_strS, v_addR, v_and, v_slR, v_slL, v_ltS, v_srtT, v_srtR, v_srtO, v_srtD, v_revR, v_eqIS, v_neIS, v_eqB, v_neB])
local macro_rules | `(tactic| walk_at "e0") => `(tactic| try simp only [e_seq, e_brk, e_cnt, e_drop, e_ret, e_retN, e_ifS, e_asg, e_gN, e_gSb, e_gTp, e_gCn, e_gNl, e_var, e_varK, e_nth0, e_nthS, e_put0, e_putS, e_c, e_op, e_un, e_call, e_nil, e_cons, e_tup, e_lst, e_test, e_asB, e_tru, e_andT, e_orT, e_notT, e_andV, e_orV, e_notV, e_if, e_aug, e_augS, e_sl, e_part, e_partK, e_noPart, e_bm0, e_bm, e_join, e_yes, e_wipe0, e_wipeS, e_lc, e_for, v_add, v_addS, v_addT, v_iadd, v_sub, v_mul, v_fdiv, v_mod, v_pow, v_shl, v_shr, v_neg, v_lt, v_le, v_gt, v_ge, v_eqI, v_neI, v_eqS, v_neS, v_inS, v_ninS, v_inT, v_ninT, v_inR, v_ninR, v_inSeq, v_seqO, v_seqR, v_seqT, v_seqL, v_ixR, v_ixT, v_ixL, v_ixS, v_atK, v_atSK, v_get, v_getL, v_getK, v_set, v_setL, v_setK, v_on1, v_on2, v_lenR, v_lenT, v_lenL, v_lenS, v_seqK, v_tuple, v_list, v_abs, v_intI, v_intB, v_okL, v_isLst, v_app, v_lstK, v_slS, v_slT, v_join, v_is, v_isnot, v_max, v_min, v_iSeq, v_srcT, v_srcL, v_srcS, v_srcR, v_srcO, v_iRg1, v_rg1, v_truN, v_truB, v_truI, v_truS, v_truR, v_truT, v_truRol, v_truL, v_inRol, v_ninRol, v_inO, v_inOd, v_inDic, v_ixO, v_ixOd, v_ixSeq, v_ixDic, v_dgetK, v_ixStr, v_getO, v_getOd, v_setO, v_setOd, v_setDic, v_lenO, v_lenOd, e_dic0, e_disp, e_pairs0, e_pairsS, e_chain, v_bits, v_iRg3, v_rg3, v_iRg2, v_rg2, v_iEn, v_enT, v_enR, v_enO, v_iZp, v_zpT, v_zpR, v_zpO, v_repr, v_strI, v_strS, v_addR, v_and, v_slR, v_slL, v_ltS, v_srtT, v_srtR, v_srtO, v_srtD, v_revR, v_revT, v_isB, v_iZs, v_zsT, v_eqIS, v_neIS, v_eqB, v_neB])
def sp_without : P1 := fun ds h Q => ∃ (R : List D) (r : D), ds = [.tup R, r] ∧ (∀ x ∈ R, Rw x) ∧ R.length ≤ 1000 ∧ Rw r ∧ Q (.tup (wo R r)) h
theorem len_without : ∀ ds h Q, sp_without ds h Q → ds.length = 2 := fun ds h Q ⟨_, _, e, _⟩ => by rw [e]; rfl
theorem sat_without : ∀ ds h Q, sp_without ds h Q → rd_without (endN Q) (startD 3 ds) h := by
  rintro ds h Q ⟨R, x, rfl, gR, lR, gx, q⟩
  show rd_without (endN Q) [some (.tup R), some x, none] h
  unfold rd_without
  walk_at "e0"
  refine lcT_tf R (fun d => d) (fun d => d) (fun y => !eqF y x) (map_idd _).symm (Nat.le_of_lt (sl_lt (by omega))) trivial (fun y hy Q' R' hQ hR => ?_) fun p2 np2 => ?_
  · walk_at "e0"
    rw [neD_pure (pure_le (by decide) _ (gR y hy).p) (pure_le (by decide) _ gx.p)]
    walk_at "e0"
    cases z : (!eqF y x) with
    | true => rw [if_pos rfl]; exact hQ z _ le.refl
    | false => rw [if_neg (by decide)]; exact hR z _ le.refl
  rw [map_idd, show R.filter (fun y => !eqF y x) = wo R x from rfl, v_seqR, up_same]
  walk_at "e0"
  exact lh_le (le.up np2) q
def sp_drop_closed : P1 := fun ds h Q => ∃ (n : D) (L C T U : List D) (r : D), ds = [sgD n L C T U, r] ∧ SgOk n L C T U ∧ r ∈ C ∧ Q (sgD n L (wo C r) T U) h
def sp_drop_link : P1 := fun ds h Q => ∃ (n : D) (L C T U : List D) (r : D), ds = [sgD n L C T U, r] ∧ SgOk n L C T U ∧ r ∈ L ∧ Q (sgD n (wo L r) C T U) h
def sp_drop_tag : P1 := fun ds h Q => ∃ (n : D) (L C T U : List D) (r : D), ds = [sgD n L C T U, r] ∧ SgOk n L C T U ∧ r ∈ T ∧ Q (sgD n L C (wo T r) U) h
def sp_drop_number : P1 := fun ds h Q => ∃ (n : D) (L C T U : List D) (r : D), ds = [sgD n L C T U, r] ∧ SgOk n L C T U ∧ r ∈ U ∧ Q (sgD n L C T (wo U r)) h
theorem len_drop_closed : ∀ ds h Q, sp_drop_closed ds h Q → ds.length = 2 := fun ds h Q ⟨_, _, _, _, _, _, e, _⟩ => by rw [e]; rfl
theorem len_drop_link : ∀ ds h Q, sp_drop_link ds h Q → ds.length = 2 := fun ds h Q ⟨_, _, _, _, _, _, e, _⟩ => by rw [e]; rfl
theorem len_drop_tag : ∀ ds h Q, sp_drop_tag ds h Q → ds.length = 2 := fun ds h Q ⟨_, _, _, _, _, _, e, _⟩ => by rw [e]; rfl
theorem len_drop_number : ∀ ds h Q, sp_drop_number ds h Q → ds.length = 2 := fun ds h Q ⟨_, _, _, _, _, _, e, _⟩ => by rw [e]; rfl
theorem sat_drop_closed : ∀ ds h Q, sp_drop_closed ds h Q → rd_drop_closed sp_without (endN Q) (startD 2 ds) h := by
  rintro ds h Q ⟨n, L, C, T, U, r, rfl, ok, m, q⟩
  show rd_drop_closed sp_without (endN Q) [some (sgD n L C T U), some r] h
  unfold rd_drop_closed
  walk_at "e0"
  rw [sg_0, sg_1, sg_2]
  refine ⟨C, r, rfl, ok.gc, ok.lc, ok.gc r m, ?_⟩
  walk_at "e0"
  rw [sg_3, sg_4]
  exact ⟨by show 5 ≤ sizeLine; decide, lh_le le.refl q⟩
theorem sat_drop_link : ∀ ds h Q, sp_drop_link ds h Q → rd_drop_link sp_without (endN Q) (startD 2 ds) h := by
  rintro ds h Q ⟨n, L, C, T, U, r, rfl, ok, m, q⟩
  show rd_drop_link sp_without (endN Q) [some (sgD n L C T U), some r] h
  unfold rd_drop_link
  walk_at "e0"
  rw [sg_0, sg_1]
  refine ⟨L, r, rfl, ok.gl, ok.ll, ok.gl r m, ?_⟩
  walk_at "e0"
  rw [sg_2, sg_3, sg_4]
  exact ⟨by show 5 ≤ sizeLine; decide, lh_le le.refl q⟩
theorem sat_drop_tag : ∀ ds h Q, sp_drop_tag ds h Q → rd_drop_tag sp_without (endN Q) (startD 2 ds) h := by
  rintro ds h Q ⟨n, L, C, T, U, r, rfl, ok, m, q⟩
  show rd_drop_tag sp_without (endN Q) [some (sgD n L C T U), some r] h
  unfold rd_drop_tag
  walk_at "e0"
  rw [sg_0, sg_1, sg_2, sg_3]
  refine ⟨T, r, rfl, ok.gt, ok.lt, ok.gt r m, ?_⟩
  walk_at "e0"
  rw [sg_4]
  exact ⟨by show 5 ≤ sizeLine; decide, lh_le le.refl q⟩
theorem sat_drop_number : ∀ ds h Q, sp_drop_number ds h Q → rd_drop_number sp_without (endN Q) (startD 2 ds) h := by
  rintro ds h Q ⟨n, L, C, T, U, r, rfl, ok, m, q⟩
  show rd_drop_number sp_without (endN Q) [some (sgD n L C T U), some r] h
  unfold rd_drop_number
  walk_at "e0"
  rw [sg_0, sg_1, sg_2, sg_3, sg_4]
  refine ⟨U, r, rfl, ok.gu, ok.lu, ok.gu r m, ?_⟩
  exact ⟨by show 5 ≤ sizeLine; decide, lh_le le.refl q⟩
def sp_weaker : P1 := fun ds h Q => ∃ (n : D) (L C T U : List D), ds = [sgD n L C T U] ∧ SgOk n L C T U ∧ Q (.tup (lessD n L C T U)) h
theorem len_weaker : ∀ ds h Q, sp_weaker ds h Q → ds.length = 1 := fun ds h Q ⟨_, _, _, _, _, e, _⟩ => by rw [e]; rfl
theorem ext_go {fl q : Addr} {A B : List D} {h h1 : MH} {Q : KD} (e : h1 fl = some (.lst A)) (np : h1 q = none) (l : A.length + B.length ≤ sizeLine) (l1 : DL.le h h1) (nf : h fl = none) (k : ∀ h2, DL.le h h2 → h2 fl = some (.lst (A ++ B)) → Q .none h2) : extendD (.ref fl) [.ref q] (up h1 q (.lst B)) Q := by
  have fq : fl ≠ q := fun z => by rw [← z, e] at np; cases np
  show lstK _ (up h1 q (.lst B) fl)
  rw [up_ne fq, e]
  show lstK _ (up h1 q (.lst B) q)
  rw [up_same]
  refine ⟨l, k _ (fun b u eb => ?_) up_same⟩
  have b1 : b ≠ fl := fun z => by rw [z, nf] at eb; cases eb
  have b2 : b ≠ q := fun z => by rw [z] at eb; rw [l1 _ _ eb] at np; cases np
  rw [up_ne b1, up_ne b2]; exact l1 _ _ eb
theorem sat_weaker : ∀ ds h Q, sp_weaker ds h Q → rd_weaker sp_drop_closed sp_drop_link sp_drop_tag sp_drop_number (endN Q) (startD 5 ds) h := by
  rintro ds h Q ⟨n, L, C, T, U, rfl, ok, q⟩
  show rd_weaker sp_drop_closed sp_drop_link sp_drop_tag sp_drop_number (endN Q) [some (sgD n L C T U), none, none, none, none] h
  have k1 := ok.ll
  have k2 := ok.lc
  have k3 := ok.lt
  have k4 := ok.lu
  unfold rd_weaker
  walk_at "e0"
  rw [sg_2, v_srcT]
  refine lcT_t C (fun d => d) (fun r => sgD n L (wo C r) T U) (map_idd _).symm (Nat.le_of_lt (sl_lt (by omega))) trivial (fun y hy Q' hQ => ?_) fun fl nfl => ?_
  · walk_at "e0"
    exact ⟨n, L, C, T, U, y, rfl, ok, hy, hQ _ le.refl⟩
  walk_at "e0"
  unfold rd_weaker_1
  walk_at "e0"
  rw [up_same]
  refine ⟨trivial, ?_⟩
  rw [sg_1, v_srcT]
  have le1 : DL.le h (up h fl (.lst (C.map fun r => sgD n L (wo C r) T U))) := le.up nfl
  have e1 : (up h fl (.lst (C.map fun r => sgD n L (wo C r) T U))) fl = some (.lst (C.map fun r => sgD n L (wo C r) T U)) := up_same
  generalize up h fl (.lst (C.map fun r => sgD n L (wo C r) T U)) = h1 at le1 e1
  have pC : pures? 60 C = true := pures_of fun y hy => pure_le (by decide) _ (ok.gc y hy).p
  have fk := List.length_filter_le (fun r => !C.any fun z => eqF z (hd2 r)) L
  refine lcT_tf L (fun d => d) (fun r => sgD n (wo L r) C T U) (fun r => !C.any fun z => eqF z (hd2 r)) (map_idd _).symm (Nat.le_of_lt (sl_lt (by omega))) trivial (fun y hy Q' R' hQ hR => ?_) fun q2 nq2 => ?_
  · have gy := ok.gl y hy
    have hp := gy.hd
    obtain ⟨xs, rfl⟩ := gy.t
    walk_at "e0"
    rw [sg_2]
    walk_at "e0"
    refine ⟨hp, pC, ?_⟩
    cases z : (C.any fun z => eqF z (.tup (cutD xs none (some 2)))) with
    | true => rw [if_neg (by decide)]; exact hR (by show (!C.any fun z => eqF z (.tup (cutD xs none (some 2)))) = false; rw [z]; rfl) _ le.refl
    | false => rw [if_pos (by rfl)]; exact ⟨n, L, C, T, U, _, rfl, ok, hy, hQ (by show (!C.any fun z => eqF z (.tup (cutD xs none (some 2)))) = true; rw [z]; rfl) _ le.refl⟩
  walk_at "e0"
  refine ext_go e1 nq2 (by rw [List.length_map, List.length_map]; exact Nat.le_of_lt (sl_lt (by omega))) le1 nfl fun h2 le2 e2 => ?_
  walk_at "e0"
  unfold rd_weaker_2
  walk_at "e0"
  rw [e2]
  refine ⟨trivial, ?_⟩
  rw [sg_3, v_srcT]
  refine lcT_t T (fun d => d) (fun r => sgD n L C (wo T r) U) (map_idd _).symm (Nat.le_of_lt (sl_lt (by omega))) trivial (fun y hy Q' hQ => ?_) fun q3 nq3 => ?_
  · walk_at "e0"
    exact ⟨n, L, C, T, U, y, rfl, ok, hy, hQ _ le.refl⟩
  walk_at "e0"
  refine ext_go e2 nq3 (by rw [List.length_append, List.length_map, List.length_map, List.length_map]; exact Nat.le_of_lt (sl_lt (by omega))) le2 nfl fun h3 le3 e3 => ?_
  walk_at "e0"
  unfold rd_weaker_3
  walk_at "e0"
  rw [e3]
  refine ⟨trivial, ?_⟩
  rw [sg_4, v_srcT]
  refine lcT_t U (fun d => d) (fun r => sgD n L C T (wo U r)) (map_idd _).symm (Nat.le_of_lt (sl_lt (by omega))) trivial (fun y hy Q' hQ => ?_) fun q4 nq4 => ?_
  · walk_at "e0"
    exact ⟨n, L, C, T, U, y, rfl, ok, hy, hQ _ le.refl⟩
  walk_at "e0"
  refine ext_go e3 nq4 (by rw [List.length_append, List.length_append, List.length_map, List.length_map, List.length_map, List.length_map]; exact Nat.le_of_lt (sl_lt (by omega))) le3 nfl fun h4 le4 e4 => ?_
  walk_at "e0"
  unfold rd_weaker_4
  walk_at "e0"
  rw [e4]
  walk_at "e0"
  exact lh_le le4 q
end DL
namespace DL
open PySem PySem.Spec PyProof.Rows L2
local macro_rules | `(tactic| walk_at "ev") => `(tactic| try simp only [e_seq, e_next, e_brk, e_cnt, e_drop, e_ret, e_retN, e_ifS, e_asg, e_gN, e_gSb, e_gTp, e_gCn, e_gNl, e_var, e_varK, e_nth0, e_nthS, e_put0, e_putS, e_c, e_op, e_un, e_call, e_nil, e_cons, e_tup, e_lst, e_test, e_asB, e_tru, e_andT, e_orT, e_notT, e_andV, e_orV, e_notV, e_if, e_aug, e_augS, e_sl, e_part, e_partK, e_noPart, e_bm0, e_bm, e_join, e_yes, e_wipe0, e_wipeS, e_lc, e_for, v_add, v_addS, v_addT, v_iadd, v_sub, v_mul, v_fdiv, v_mod, v_pow, v_shl, v_shr, v_neg, v_lt, v_le, v_gt, v_ge, v_eqI, v_neI, v_eqS, v_neS, v_inS, v_ninS, v_inT, v_ninT, v_inR, v_ninR, v_inSeq, v_seqO, v_seqR, v_seqT, v_seqL, v_ixR, v_ixT, v_ixL, v_ixS, v_atK, v_atSK, v_get, v_getL, v_getK, v_set, v_setL, v_setK, v_on1, v_on2, v_lenR, v_lenT, v_lenL, v_lenS, v_seqK, v_tuple, v_list, v_abs, v_intI, v_intB, v_okL, v_isLst, v_app, v_lstK, v_slS, v_slT, v_join, v_is, v_isnot, v_max, v_min, v_iSeq, v_srcT, v_srcL, v_srcS, v_srcR, v_srcO, v_iRg1, v_rg1, v_truN, v_truB, v_truI, v_truS, v_truR, v_truT, v_truRol, v_truL, v_inRol, v_ninRol, v_inO, v_inOd, v_inDic, v_ixO, v_ixOd, v_ixSeq, v_ixDic, v_dgetK, v_ixStr, v_getO, v_getOd, v_setO, v_setOd, v_setDic, v_lenO, v_lenOd, e_dic0, e_disp, e_pairs0, e_pairsS, e_chain, v_bits, v_iRg3, v_rg3, v_iRg2, v_rg2, v_iEn, v_enT, v_enR, v_enO, v_iZp, v_zpT, v_zpR, v_zpO, v_repr, v_strI, v_strS, v_addR, v_and, v_slR, v_slL, v_ltS, v_srtT, v_srtR, v_srtO, v_srtD, v_revR, v_eqIS, v_neIS, v_eqB, v_neB])
local macro_rules | `(tactic| walk_at "e0") => `(tactic| try simp only [e_seq, e_brk, e_cnt, e_drop, e_ret, e_retN, e_ifS, e_asg, e_gN, e_gSb, e_gTp, e_gCn, e_gNl, e_var, e_varK, e_nth0, e_nthS, e_put0, e_putS, e_c, e_op, e_un, e_call, e_nil, e_cons, e_tup, e_lst, e_test, e_asB, e_tru, e_andT, e_orT, e_notT, e_andV, e_orV, e_notV, e_if, e_aug, e_augS, e_sl, e_part, e_partK, e_noPart, e_bm0, e_bm, e_join, e_yes, e_wipe0, e_wipeS, e_lc, e_for, v_add, v_addS, v_addT, v_iadd, v_sub, v_mul, v_fdiv, v_mod, v_pow, v_shl, v_shr, v_neg, v_lt, v_le, v_gt, v_ge, v_eqI, v_neI, v_eqS, v_neS, v_inS, v_ninS, v_inT, v_ninT, v_inR, v_ninR, v_inSeq, v_seqO, v_seqR, v_seqT, v_seqL, v_ixR, v_ixT, v_ixL, v_ixS, v_atK, v_atSK, v_get, v_getL, v_getK, v_set, v_setL, v_setK, v_on1, v_on2, v_lenR, v_lenT, v_lenL, v_lenS, v_seqK, v_tuple, v_list, v_abs, v_intI, v_intB, v_okL, v_isLst, v_app, v_lstK, v_slS, v_slT, v_join, v_is, v_isnot, v_max, v_min, v_iSeq, v_srcT, v_srcL, v_srcS, v_srcR, v_srcO, v_iRg1, v_rg1, v_truN, v_truB, v_truI, v_truS, v_truR, v_truT, v_truRol, v_truL, v_inRol, v_ninRol, v_inO, v_inOd, v_inDic, v_ixO, v_ixOd, v_ixSeq, v_ixDic, v_dgetK, v_ixStr, v_getO, v_getOd, v_setO, v_setOd, v_setDic, v_lenO, v_lenOd, e_dic0, e_disp, e_pairs0, e_pairsS, e_chain, v_bits, v_iRg3, v_rg3, v_iRg2, v_rg2, v_iEn, v_enT, v_enR, v_enO, v_iZp, v_zpT, v_zpR, v_zpO, v_repr, v_strI, v_strS, v_addR, v_and, v_slR, v_slL, v_ltS, v_srtT, v_srtR, v_srtO, v_srtD, v_revR, v_revT, v_isB, v_iZs, v_zsT, v_eqIS, v_neIS, v_eqB, v_neB])
mutual
theorem alike_self : ∀ d : D, PySem.W.alike (pd d) (pd d) = true
  | .none => by simp only [pd, PySem.W.alike]
  | .bool _ => by simp only [pd, PySem.W.alike]
  | .int _ => by simp only [pd, PySem.W.alike]
  | .str _ => by simp only [pd, PySem.W.alike]
  | .tup ds => by simp only [pd, PySem.W.alike]; exact alikeAll_self ds
  | .rol ds => by simp only [pd, PySem.W.alike]; exact alikeAll_self ds
  | .ref _ => by simp only [pd, PySem.W.alike]
  | .ty _ => by simp only [pd, PySem.W.alike]
theorem alikeAll_self : ∀ ds : List D, PySem.W.alikeAll (pds ds) (pds ds) = true
  | [] => by simp only [pds, PySem.W.alikeAll]
  | d :: ds => by simp only [pds, PySem.W.alikeAll, alike_self d, alikeAll_self ds]; rfl
end
theorem view_lst {p : Addr} {l : List D} {h : MH} (e : h p = some (.lst l)) (pu : pures? 60 l = true) : view h (.ref p) = some (.list (pds l)) := by
  show viewO (h p) = _
  rw [e]
  show viewL l = _
  unfold viewL
  rw [if_pos pu]
theorem eqv_lst (l : List D) : PyData.eqv (.list (pds l)) (.list (pds l)) = true := PySem.W.eqv_refl_alike _ (by simp only [PySem.W.alike]; exact alikeAll_self l)
theorem ne_lst {p q : Addr} {l : List D} {h : MH} {Q : KD} (e1 : h p = some (.lst l)) (e2 : h q = some (.lst l)) (pu : pures? 60 l = true) (k : Q (.bool false) h) : neD (.ref p) (.ref q) h Q := by
  show eqvO (view h (.ref p)) (view h (.ref q)) _
  rw [view_lst e1 pu, view_lst e2 pu]
  show Q (.bool (!PyData.eqv (.list _) (.list _))) h
  rw [eqv_lst]; exact k
theorem eq_lst {p q : Addr} {l : List D} {h : MH} {Q : KD} (e1 : h p = some (.lst l)) (e2 : h q = some (.lst l)) (pu : pures? 60 l = true) (k : Q (.bool true) h) : eqD (.ref p) (.ref q) h Q := by
  show eqvO (view h (.ref p)) (view h (.ref q)) _
  rw [view_lst e1 pu, view_lst e2 pu]
  show Q (.bool (PyData.eqv (.list _) (.list _))) h
  rw [eqv_lst]; exact k
structure Sg where
  n : D
  l : List D
  c : List D
  t : List D
  u : List D
def sgS (s : Sg) : D := sgD s.n s.l s.c s.t s.u
def SOk (s : Sg) : Prop := SgOk s.n s.l s.c s.t s.u
def lessS (s : Sg) : List D := lessD s.n s.l s.c s.t s.u
theorem SOk.pure {s : Sg} (ok : SOk s) : pure? 59 (sgS s) = true := by
  have f : ∀ l : List D, (∀ x ∈ l, Rw x) → pure? 58 (.tup l) = true := fun l g => by
    show pures? 57 l = true
    exact pures_of fun x hx => pure_le (by decide) _ (g x hx).p
  show pures? 58 _ = true
  refine pures_of fun x hx => ?_
  rcases List.mem_cons.mp hx with rfl | hx
  · exact pure_le (by decide) _ ok.pn
  rcases List.mem_cons.mp hx with rfl | hx
  · exact f _ ok.gl
  rcases List.mem_cons.mp hx with rfl | hx
  · exact f _ ok.gc
  rcases List.mem_cons.mp hx with rfl | hx
  · exact f _ ok.gt
  · rw [List.mem_singleton.mp hx]; exact f _ ok.gu
theorem SOk.sh {s : Sg} (ok : SOk s) : sh 5600000 (sgS s) := by
  have f : ∀ l : List D, (∀ x ∈ l, Rw x) → l.length ≤ 1000 → DL.sh 1100000 (.tup l) := fun l g hl => sh_up (sh_tup (c := 1000) (n := 1000) (fun x hx => (g x hx).s) hl) (by decide)
  refine sh_up (sh_tup (c := 1100000) (n := 5) (fun x hx => ?_) (Nat.le_refl _)) (by decide)
  rcases List.mem_cons.mp hx with rfl | hx
  · exact ok.sn
  rcases List.mem_cons.mp hx with rfl | hx
  · exact f _ ok.gl ok.ll
  rcases List.mem_cons.mp hx with rfl | hx
  · exact f _ ok.gc ok.lc
  rcases List.mem_cons.mp hx with rfl | hx
  · exact f _ ok.gt ok.lt
  · rw [List.mem_singleton.mp hx]; exact f _ ok.gu ok.lu
theorem wo_len (l : List D) (r : D) : (wo l r).length ≤ l.length := List.length_filter_le _ _
theorem wo_mem {l : List D} {r x : D} (h : x ∈ wo l r) : x ∈ l := (List.mem_filter.mp h).1
theorem less_mem {s : Sg} (ok : SOk s) {x : D} (h : x ∈ lessS s) : ∃ s', SOk s' ∧ sgS s' = x := by
  unfold lessS lessD at h
  rcases List.mem_append.mp h with h | h
  · rcases List.mem_append.mp h with h | h
    · rcases List.mem_append.mp h with h | h
      · obtain ⟨r, hr, rfl⟩ := List.mem_map.mp h
        exact ⟨⟨s.n, s.l, wo s.c r, s.t, s.u⟩, ⟨ok.pn, ok.sn, ok.ll, Nat.le_trans (wo_len _ _) ok.lc, ok.lt, ok.lu, ok.gl, fun y hy => ok.gc y (wo_mem hy), ok.gt, ok.gu⟩, rfl⟩
      · obtain ⟨r, hr, rfl⟩ := List.mem_map.mp h
        exact ⟨⟨s.n, wo s.l r, s.c, s.t, s.u⟩, ⟨ok.pn, ok.sn, Nat.le_trans (wo_len _ _) ok.ll, ok.lc, ok.lt, ok.lu, fun y hy => ok.gl y (wo_mem hy), ok.gc, ok.gt, ok.gu⟩, rfl⟩
    · obtain ⟨r, hr, rfl⟩ := List.mem_map.mp h
      exact ⟨⟨s.n, s.l, s.c, wo s.t r, s.u⟩, ⟨ok.pn, ok.sn, ok.ll, ok.lc, Nat.le_trans (wo_len _ _) ok.lt, ok.lu, ok.gl, ok.gc, fun y hy => ok.gt y (wo_mem hy), ok.gu⟩, rfl⟩
  · obtain ⟨r, hr, rfl⟩ := List.mem_map.mp h
    exact ⟨⟨s.n, s.l, s.c, s.t, wo s.u r⟩, ⟨ok.pn, ok.sn, ok.ll, ok.lc, ok.lt, Nat.le_trans (wo_len _ _) ok.lu, ok.gl, ok.gc, ok.gt, fun y hy => ok.gu y (wo_mem hy)⟩, rfl⟩
theorem less_pure {s : Sg} (ok : SOk s) : pures? 60 (lessS s) = true := pures_of fun x hx => by
  obtain ⟨s', ok', rfl⟩ := less_mem ok hx
  exact pure_le (by decide) _ ok'.pure
theorem less_len {s : Sg} (ok : SOk s) : (lessS s).length ≤ 4000 := by
  unfold lessS lessD
  have k1 := ok.ll
  have k2 := ok.lc
  have k3 := ok.lt
  have k4 := ok.lu
  have fk := List.length_filter_le (fun r => !s.c.any fun z => eqF z (hd2 r)) s.l
  simp only [List.length_append, List.length_map]
  omega
end DL
namespace DL
open PySem PySem.Spec PyProof.Rows L2
local macro_rules | `(tactic| walk_at "ev") => `(tactic| try simp only [e_seq, e_next, e_brk, e_cnt, e_drop, e_ret, e_retN, e_ifS, e_asg, e_gN, e_gSb, e_gTp, e_gCn, e_gNl, e_var, e_varK, e_nth0, e_nthS, e_put0, e_putS, e_c, e_op, e_un, e_call, e_nil, e_cons, e_tup, e_lst, e_test, e_asB, e_tru, e_andT, e_orT, e_notT, e_andV, e_orV, e_notV, e_if, e_aug, e_augS, e_sl, e_part, e_partK, e_noPart, e_bm0, e_bm, e_join, e_yes, e_wipe0, e_wipeS, e_lc, e_for, v_add, v_addS, v_addT, v_iadd, v_sub, v_mul, v_fdiv, v_mod, v_pow, v_shl, v_shr, v_neg, v_lt, v_le, v_gt, v_ge, v_eqI, v_neI, v_eqS, v_neS, v_inS, v_ninS, v_inT, v_ninT, v_inR, v_ninR, v_inSeq, v_seqO, v_seqR, v_seqT, v_seqL, v_ixR, v_ixT, v_ixL, v_ixS, v_atK, v_atSK, v_get, v_getL, v_getK, v_set, v_setL, v_setK, v_on1, v_on2, v_lenR, v_lenT, v_lenL, v_lenS, v_seqK, v_tuple, v_list, v_abs, v_intI, v_intB, v_okL, v_isLst, v_app, v_lstK, v_slS, v_slT, v_join, v_is, v_isnot, v_max, v_min, v_iSeq, v_srcT, v_srcL, v_srcS, v_srcR, v_srcO, v_iRg1, v_rg1, v_truN, v_truB, v_truI, v_truS, v_truR, v_truT, v_truRol, v_truL, v_inRol, v_ninRol, v_inO, v_inOd, v_inDic, v_ixO, v_ixOd, v_ixSeq, v_ixDic, v_dgetK, v_ixStr, v_getO, v_getOd, v_setO, v_setOd, v_setDic, v_lenO, v_lenOd, e_dic0, e_disp, e_pairs0, e_pairsS, e_chain, v_bits, v_iRg3, v_rg3, v_iRg2, v_rg2, v_iEn, v_enT, v_enR, v_enO, v_iZp, v_zpT, v_zpR, v_zpO, v_repr, v_strI, v_strS, v_addR, v_and, v_slR, v_slL, v_ltS, v_srtT, v_srtR, v_srtO, v_srtD, v_revR, v_eqIS, v_neIS, v_eqB, v_neB])
local macro_rules | `(tactic| walk_at "e0") => `(tactic| try simp only [e_seq, e_brk, e_cnt, e_drop, e_ret, e_retN, e_ifS, e_asg, e_gN, e_gSb, e_gTp, e_gCn, e_gNl, e_var, e_varK, e_nth0, e_nthS, e_put0, e_putS, e_c, e_op, e_un, e_call, e_nil, e_cons, e_tup, e_lst, e_test, e_asB, e_tru, e_andT, e_orT, e_notT, e_andV, e_orV, e_notV, e_if, e_aug, e_augS, e_sl, e_part, e_partK, e_noPart, e_bm0, e_bm, e_join, e_yes, e_wipe0, e_wipeS, e_lc, e_for, v_add, v_addS, v_addT, v_iadd, v_sub, v_mul, v_fdiv, v_mod, v_pow, v_shl, v_shr, v_neg, v_lt, v_le, v_gt, v_ge, v_eqI, v_neI, v_eqS, v_neS, v_inS, v_ninS, v_inT, v_ninT, v_inR, v_ninR, v_inSeq, v_seqO, v_seqR, v_seqT, v_seqL, v_ixR, v_ixT, v_ixL, v_ixS, v_atK, v_atSK, v_get, v_getL, v_getK, v_set, v_setL, v_setK, v_on1, v_on2, v_lenR, v_lenT, v_lenL, v_lenS, v_seqK, v_tuple, v_list, v_abs, v_intI, v_intB, v_okL, v_isLst, v_app, v_lstK, v_slS, v_slT, v_join, v_is, v_isnot, v_max, v_min, v_iSeq, v_srcT, v_srcL, v_srcS, v_srcR, v_srcO, v_iRg1, v_rg1, v_truN, v_truB, v_truI, v_truS, v_truR, v_truT, v_truRol, v_truL, v_inRol, v_ninRol, v_inO, v_inOd, v_inDic, v_ixO, v_ixOd, v_ixSeq, v_ixDic, v_dgetK, v_ixStr, v_getO, v_getOd, v_setO, v_setOd, v_setDic, v_lenO, v_lenOd, e_dic0, e_disp, e_pairs0, e_pairsS, e_chain, v_bits, v_iRg3, v_rg3, v_iRg2, v_rg2, v_iEn, v_enT, v_enR, v_enO, v_iZp, v_zpT, v_zpR, v_zpO, v_repr, v_strI, v_strS, v_addR, v_and, v_slR, v_slL, v_ltS, v_srtT, v_srtR, v_srtO, v_srtD, v_revR, v_revT, v_isB, v_iZs, v_zsT, v_eqIS, v_neIS, v_eqB, v_neB])
theorem and_1 : ∀ i : Nat, i < 12 → Builtin.bitAnd (i : Int) 1 = 0 ∨ Builtin.bitAnd (i : Int) 1 = 1 := by
  have e : ∀ i : Fin 12, Builtin.bitAnd (i.1 : Int) 1 = 0 ∨ Builtin.bitAnd (i.1 : Int) 1 = 1 := by decide +kernel
  exact fun i hi => e ⟨i, hi⟩
theorem poolS_nd : poolS.Nodup := by decide +kernel
theorem len_law : ∀ ds h Q, spLaw ds h Q → ds.length = 1 := fun ds h Q ⟨_, e, _⟩ => by rw [e]; rfl
theorem sat_law : ∀ ds h Q, spLaw ds h Q → rd_law sp__law_begin sp__law_pool sp__law_plan sp__law_draw sp__law_one_sight sp__law_lesser sp_weaker (endN Q) (startD 11 ds) h := by
  rintro ds h Q ⟨cs, rfl, hcs, q⟩
  show rd_law sp__law_begin sp__law_pool sp__law_plan sp__law_draw sp__law_one_sight sp__law_lesser sp_weaker (endN Q) [some (.rol (cs.map D.int)), none, none, none, none, none, none, none, none, none, none] h
  unfold rd_law
  walk_at "e0"
  refine ⟨cs, rfl, hcs, fun a c o na nc ac k0 => ?_⟩
  have d0 : Dr a c cs (up (up h c (.lst (cs.map D.int))) a o) := ⟨⟨o, up_same, k0⟩, by rw [up_ne ac.symm, up_same]⟩
  generalize up (up h c (.lst (cs.map D.int))) a o = h0 at d0
  have L0 := LV.start d0
  walk_at "e0"
  unfold rd_law_1
  walk_at "e0"
  refine ⟨rfl, fun pl npl => ?_⟩
  generalize epl : up _ pl _ = h1
  have pa := L0.ne npl
  have pc : pl ≠ c := fun z => by
    have := d0.ce
    rw [← z, npl] at this; cases this
  have L1 := L0.newE npl epl
  walk_at "e0"
  unfold rd_law_2
  walk_at "e0"
  refine L1.draw (by decide) (by decide) fun r h2 r0 r1 L2 => ?_
  obtain ⟨r, rfl⟩ := Int.eq_ofNat_of_zero_le r0
  refine ⟨a, c, cs, pl, poolS, r, rfl, L2.dr, pa, pc, L2.get 0 rfl, by omega, by rw [pool_len]; decide, by rw [pool_len]; decide, poolS_nd, pool_GN, fun v P p h3 sP lP L3 PA => ?_⟩
  have d3 := L3.dr
  have ep : h3 pl = some (.lst (P.map D.str)) := L3.old up_same pa
  have gP : ∀ x ∈ P, GN x := fun x hx => pool_GN x (sP x hx)
  have lP2 : P.length ≤ 68 := by rw [pool_len] at lP; exact lP
  clear L3
  have B0 := (LV.start d3).cast (up_id ep).symm rfl
  walk_at "e0"
  unfold rd_law_3
  walk_at "e0"
  refine ⟨by decide, ?_⟩
  refine ⟨by show (rgD 0 ((2 : Nat) : Int).toNat).length ≤ sizeLine; rw [rg_len]; decide, fun i acc hh => ∃ (S : List Sg) (P' : List Str), LV (up h3 pl (.lst (P'.map D.str))) a c cs hh [] ∧ acc = S.map sgS ∧ S.length = i ∧ (∀ s ∈ S, SOk s) ∧ (∀ x ∈ P', x ∈ P) ∧ P'.length ≤ P.length, ⟨h3, le.refl, [], P, B0, rfl, rfl, by simp, fun _ z => z, Nat.le_refl _⟩, fun _ _ _ _ => trivial, ?_, ?_⟩
  · rintro i x acc hh hx ⟨S, P', L, rfl, hS, oS, sP', lP'⟩
    walk_at "e0"
    refine ⟨a, c, cs, p, pl, v, P', rfl, L.dr, pa, pc, L.old up_same pa, by omega, fun x hx => gP x (sP' x hx), PA.lvB L (.inl rfl) (.inr rfl), fun n L' C T U P'' o ok sP'' lP'' k => ?_⟩
    have L2 := (L.drawn k).base up_same pa pc (.lst (P''.map D.str))
    rw [up_up, up_com pa.symm] at L2
    refine ⟨_, le.refl, S ++ [⟨n, L', C, T, U⟩], P'', L2, by rw [List.map_append]; rfl, by rw [List.length_append, hS]; rfl, fun s hs => ?_, fun x hx => sP' x (sP'' x hx), by omega⟩
    rcases List.mem_append.mp hs with hs | hs
    · exact oS s hs
    · rw [List.mem_singleton.mp hs]; exact ok
  rintro acc hh ⟨S, P', L, rfl, hS, oS, sP', lP'⟩ sl nsl
  generalize esl : up _ sl _ = h4
  have L4 := L.newE nsl esl
  generalize up h3 pl (.lst (P'.map D.str)) = B at L L4
  have hS2 : S.length = 2 := hS.trans (by show (rgD 0 ((2 : Nat) : Int).toNat).length = 2; rw [rg_len])
  obtain ⟨s0, s1, rfl⟩ : ∃ s0 s1, S = [s0, s1] := by
    match S, hS2 with
    | [s0, s1], _ => exact ⟨s0, s1, rfl⟩
  have ok0 := oS s0 (by simp)
  walk_at "e0"
  unfold rd_law_4
  walk_at "e0"
  rw [L4.get 0 rfl, List.map_cons, ix_z]
  walk_at "e0"
  unfold rd_law_5
  walk_at "e0"
  refine L4.draw (by decide) (by decide) fun t h5 t0 t1 L5 => ?_
  obtain ⟨t, rfl⟩ := Int.eq_ofNat_of_zero_le t0
  walk_at "e0"
  rw [show (2 : Int) + (t : Int) = ((2 + t : Nat) : Int) by omega]
  refine ⟨bnd62 (by omega), ?_⟩
  refine ⟨fun i σ hh => ∃ (S : List Sg) (x6 x7 x8 x9 x10 : Option D), LV B a c cs hh [(sl, .lst (S.map sgS))] ∧ S.length = 2 ∧ (∀ s ∈ S, SOk s) ∧ σ = [some (.rol (cs.map D.int)), some (.ref a), some (.ref pl), some (.ref p), some (.ref sl), some (sgS s0), x6, x7, x8, x9, x10], Lw.of ⟨[s0, s1], _, _, _, _, _, L5, rfl, oS, rfl⟩, fun _ _ _ _ => trivial, ?_, ?_⟩
  · rintro i x σ hh hx ⟨S, x6, x7, x8, x9, x10, L, hS, oS, rfl⟩
    obtain ⟨hi, rfl⟩ := rg_at hx
    walk_at "e0"
    unfold rd_law_b1
    walk_at "e0"
    have hk : ∃ k : Nat, k < 2 ∧ Builtin.bitAnd ((i : Nat) : Int) 1 = (k : Int) := by
      rcases and_1 i (by omega) with e | e
      · exact ⟨0, by decide, e⟩
      · exact ⟨1, by decide, e⟩
    obtain ⟨k, k2, ek⟩ := hk
    rw [ek]
    have hk' : k < S.length := by omega
    have okk := oS _ (List.getElem_mem hk')
    have at_ : atI (S.map sgS) ((k : Nat) : Int) = some (sgS S[k]) := atI_of (k := k) rfl (by rw [List.getElem?_map, List.getElem?_eq_getElem hk']; rfl)
    unfold rd_law_b1_1
    walk_at "e0"
    rw [L.get 0 rfl, v_ixO, v_ixSeq, at_, v_atK]
    refine ⟨_, _, _, _, _, rfl, okk, fun dl ndl => ?_⟩
    generalize edl : up _ dl _ = h6
    have L6 := L.newE ndl edl
    rw [show lessD S[k].n S[k].l S[k].c S[k].t S[k].u = lessS S[k] from rfl] at L6
    walk_at "e0"
    unfold rd_law_b1_2
    walk_at "e0"
    rw [L6.get 1 rfl, v_ixO, v_ixSeq, at_, v_atK]
    refine ⟨_, _, _, _, _, rfl, okk, ?_⟩
    rw [show lessD S[k].n S[k].l S[k].c S[k].t S[k].u = lessS S[k] from rfl]
    have lp := less_pure okk
    have ll := less_len okk
    have lm := fun x (hx : x ∈ lessS S[k]) => less_mem okk hx
    generalize lessS S[k] = Z at L6 lp ll lm
    walk_at "e0"
    unfold rd_law_b1_3
    walk_at "e0"
    have pz : pure? 60 (.tup Z) = true := by
      show pures? 59 Z = true
      exact pures_of fun x hx => by
        obtain ⟨s', ok', rfl⟩ := lm x hx
        exact ok'.pure
    rw [isi_pure pz (kit_tt Z)]
    walk_at "e0"
    rw [if_neg (by decide)]
    intro gl ngl
    generalize egl : up _ gl _ = h7
    have L7 := L6.newE ngl egl
    refine ne_lst (L7.get 0 rfl) (L7.get 1 rfl) lp ?_
    walk_at "e0"
    rw [if_neg (by decide), e_next]
    unfold rd_law_b1_4
    walk_at "e0"
    rw [L7.get 1 rfl]
    walk_at "e0"
    by_cases z : (0 : Int) < (Z.length : Int)
    · rw [if_pos (decide_eq_true z), L7.get 1 rfl]
      walk_at "e0"
      refine L7.draw (by omega) (by omega) fun j h8 j0 j1 L8 => ?_
      obtain ⟨j, rfl⟩ := Int.eq_ofNat_of_zero_le j0
      have hj : j < Z.length := by omega
      have atj : atI Z ((j : Nat) : Int) = some Z[j] := atI_of (k := j) rfl (List.getElem?_eq_getElem hj)
      obtain ⟨s', ok', es'⟩ := lm _ (List.getElem_mem hj)
      have rp := ok'.sh
      have pp := pure_le (show 59 ≤ 60 by decide) _ ok'.pure
      have rl : (pd (sgS s')).shown.length ≤ sizeLine := Nat.le_trans rp.2 (by decide)
      walk_at "e0"
      rw [atj, ← es']
      walk_at "e0"
      refine ⟨pp, rp.1, rl, ?_⟩
      rw [L8.get 1 rfl, v_ixO, v_ixSeq, atj, ← es', v_atK]
      refine ⟨pp, rp.1, rl, ?_⟩
      rw [if_neg (by simp), e_next]
      walk_at "e0"
      rw [L8.get 1 rfl, v_ixO, v_ixSeq, atj, ← es', v_atK]
      rw [L8.get 2 rfl, v_setO, v_setL, ixN_of (k := k) rfl (by rw [List.length_map]; exact hk')]
      have L9 := L8.tl.tl.set 0 rfl (.lst ((S.set k s').map sgS))
      rw [List.map_set] at L9
      refine Lw.of ⟨S.set k s', _, _, _, _, _, by rw [List.map_set]; exact L9, by rw [List.length_set]; exact hS, fun u hu => ?_, rfl⟩
      rcases List.mem_or_eq_of_mem_set hu with hu | rfl
      · exact oS u hu
      · exact ok'
    · rw [if_neg (by rw [decide_eq_true_eq]; exact z), e_next]
      exact Lw.of ⟨S, _, _, _, _, _, L7.tl.tl, hS, oS, rfl⟩
  · rintro σ hh ⟨S, x6, x7, x8, x9, x10, L, hS, oS, rfl⟩
    unfold rd_law_6
    walk_at "e0"
    refine ⟨_, _, _, _, _, rfl, ok0, ?_⟩
    walk_at "e0"
    intro gl ngl
    generalize egl : up _ gl _ = h7
    have L7 := L.newE ngl egl
    refine ⟨_, _, _, _, _, rfl, ok0, fun dl ndl => ?_⟩
    generalize edl : up _ dl _ = h8
    have L8 := L7.newE ndl edl
    exact eq_lst (L8.get 1 rfl) (L8.get 0 rfl) (less_pure ok0) (lh_le le.refl (q _))
end DL
open PySem PySem.Spec PyProof.Rows L2 DL in
theorem DL.all_mk {l : PySem.W.OpenLaw} {w : World} {K : PySem.W.Frag} {h : Heap} {mg : Str → Option Value} {fa : Addr} (X : K.In h) (G : h.Ns mainGlobals mg) (hfa : mg "law" = some (.ref fa))
    {f0 : Addr} {oc0 kV0 dc0 pm0 cd0 ct0 : Value} {od0 an0 : Option Addr} {sl0 : Array (Option Value)}
    {f1 : Addr} {oc1 kV1 dc1 pm1 cd1 ct1 : Value} {od1 an1 : Option Addr} {sl1 : Array (Option Value)}
    {f2 : Addr} {oc2 kV2 dc2 pm2 cd2 ct2 : Value} {od2 an2 : Option Addr} {sl2 : Array (Option Value)}
    {f3 : Addr} {oc3 kV3 dc3 pm3 cd3 ct3 : Value} {od3 an3 : Option Addr} {sl3 : Array (Option Value)}
    {f4 : Addr} {oc4 kV4 dc4 pm4 cd4 ct4 : Value} {od4 an4 : Option Addr} {sl4 : Array (Option Value)}
    {f5 : Addr} {oc5 kV5 dc5 pm5 cd5 ct5 : Value} {od5 an5 : Option Addr} {sl5 : Array (Option Value)}
    {f6 : Addr} {oc6 kV6 dc6 pm6 cd6 ct6 : Value} {od6 an6 : Option Addr} {sl6 : Array (Option Value)}
    {f7 : Addr} {oc7 kV7 dc7 pm7 cd7 ct7 : Value} {od7 an7 : Option Addr} {sl7 : Array (Option Value)}
    {f8 : Addr} {oc8 kV8 dc8 pm8 cd8 ct8 : Value} {od8 an8 : Option Addr} {sl8 : Array (Option Value)}
    {f9 : Addr} {oc9 kV9 dc9 pm9 cd9 ct9 : Value} {od9 an9 : Option Addr} {sl9 : Array (Option Value)}
    {f10 : Addr} {oc10 kV10 dc10 pm10 cd10 ct10 : Value} {od10 an10 : Option Addr} {sl10 : Array (Option Value)}
    {f11 : Addr} {oc11 kV11 dc11 pm11 cd11 ct11 : Value} {od11 an11 : Option Addr} {sl11 : Array (Option Value)}
    {f12 : Addr} {oc12 kV12 dc12 pm12 cd12 ct12 : Value} {od12 an12 : Option Addr} {sl12 : Array (Option Value)}
    {f13 : Addr} {oc13 kV13 dc13 pm13 cd13 ct13 : Value} {od13 an13 : Option Addr} {sl13 : Array (Option Value)}
    {f14 : Addr} {oc14 kV14 dc14 pm14 cd14 ct14 : Value} {od14 an14 : Option Addr} {sl14 : Array (Option Value)}
    {f15 : Addr} {oc15 kV15 dc15 pm15 cd15 ct15 : Value} {od15 an15 : Option Addr} {sl15 : Array (Option Value)}
    {f16 : Addr} {oc16 kV16 dc16 pm16 cd16 ct16 : Value} {od16 an16 : Option Addr} {sl16 : Array (Option Value)}
    {f17 : Addr} {oc17 kV17 dc17 pm17 cd17 ct17 : Value} {od17 an17 : Option Addr} {sl17 : Array (Option Value)}
    {f18 : Addr} {oc18 kV18 dc18 pm18 cd18 ct18 : Value} {od18 an18 : Option Addr} {sl18 : Array (Option Value)}
    {f19 : Addr} {oc19 kV19 dc19 pm19 cd19 ct19 : Value} {od19 an19 : Option Addr} {sl19 : Array (Option Value)}
    {f20 : Addr} {oc20 kV20 dc20 pm20 cd20 ct20 : Value} {od20 an20 : Option Addr} {sl20 : Array (Option Value)}
    {f21 : Addr} {oc21 kV21 dc21 pm21 cd21 ct21 : Value} {od21 an21 : Option Addr} {sl21 : Array (Option Value)}
    {f22 : Addr} {oc22 kV22 dc22 pm22 cd22 ct22 : Value} {od22 an22 : Option Addr} {sl22 : Array (Option Value)}
    {f23 : Addr} {oc23 kV23 dc23 pm23 cd23 ct23 : Value} {od23 an23 : Option Addr} {sl23 : Array (Option Value)}
    {f24 : Addr} {oc24 kV24 dc24 pm24 cd24 ct24 : Value} {od24 an24 : Option Addr} {sl24 : Array (Option Value)}
    {f25 : Addr} {oc25 kV25 dc25 pm25 cd25 ct25 : Value} {od25 an25 : Option Addr} {sl25 : Array (Option Value)}
    {f26 : Addr} {oc26 kV26 dc26 pm26 cd26 ct26 : Value} {od26 an26 : Option Addr} {sl26 : Array (Option Value)}
    {f27 : Addr} {oc27 kV27 dc27 pm27 cd27 ct27 : Value} {od27 an27 : Option Addr} {sl27 : Array (Option Value)}
    {f28 : Addr} {oc28 kV28 dc28 pm28 cd28 ct28 : Value} {od28 an28 : Option Addr} {sl28 : Array (Option Value)}
    {f29 : Addr} {oc29 kV29 dc29 pm29 cd29 ct29 : Value} {od29 an29 : Option Addr} {sl29 : Array (Option Value)}
    {f30 : Addr} {oc30 kV30 dc30 pm30 cd30 ct30 : Value} {od30 an30 : Option Addr} {sl30 : Array (Option Value)}
    {f31 : Addr} {oc31 kV31 dc31 pm31 cd31 ct31 : Value} {od31 an31 : Option Addr} {sl31 : Array (Option Value)}
    {f32 : Addr} {oc32 kV32 dc32 pm32 cd32 ct32 : Value} {od32 an32 : Option Addr} {sl32 : Array (Option Value)}
    {f33 : Addr} {oc33 kV33 dc33 pm33 cd33 ct33 : Value} {od33 an33 : Option Addr} {sl33 : Array (Option Value)}
    {f34 : Addr} {oc34 kV34 dc34 pm34 cd34 ct34 : Value} {od34 an34 : Option Addr} {sl34 : Array (Option Value)}
    (a0 : PySem.W.nsIn K mainGlobals "without" = some (some (.ref f0))) (l0 : K.lookup f0 = some ⟨oc0, od0, .func (PySem.W.fnOf "without" "without" (defArgs s_without) (defBody s_without) (defScope s_without) .none kV0 dc0 pm0 an0 cd0 ct0), sl0⟩) (c0 : PySem.W.codeIn K cd0 "without" = true) (k0 : PySem.W.keepIn K (.ref f0) = true)
    (a1 : PySem.W.nsIn K mainGlobals "_law_begin" = some (some (.ref f1))) (l1 : K.lookup f1 = some ⟨oc1, od1, .func (PySem.W.fnOf "_law_begin" "_law_begin" (defArgs s__law_begin) (defBody s__law_begin) (defScope s__law_begin) .none kV1 dc1 pm1 an1 cd1 ct1), sl1⟩) (c1 : PySem.W.codeIn K cd1 "_law_begin" = true) (k1 : PySem.W.keepIn K (.ref f1) = true)
    (a2 : PySem.W.nsIn K mainGlobals "_law_draw" = some (some (.ref f2))) (l2 : K.lookup f2 = some ⟨oc2, od2, .func (PySem.W.fnOf "_law_draw" "_law_draw" (defArgs s__law_draw) (defBody s__law_draw) (defScope s__law_draw) .none kV2 dc2 pm2 an2 cd2 ct2), sl2⟩) (c2 : PySem.W.codeIn K cd2 "_law_draw" = true) (k2 : PySem.W.keepIn K (.ref f2) = true)
    (a3 : PySem.W.nsIn K mainGlobals "_law_pool" = some (some (.ref f3))) (l3 : K.lookup f3 = some ⟨oc3, od3, .func (PySem.W.fnOf "_law_pool" "_law_pool" (defArgs s__law_pool) (defBody s__law_pool) (defScope s__law_pool) .none kV3 dc3 pm3 an3 cd3 ct3), sl3⟩) (c3 : PySem.W.codeIn K cd3 "_law_pool" = true) (k3 : PySem.W.keepIn K (.ref f3) = true)
    (a4 : PySem.W.nsIn K mainGlobals "_law_tags_of" = some (some (.ref f4))) (l4 : K.lookup f4 = some ⟨oc4, od4, .func (PySem.W.fnOf "_law_tags_of" "_law_tags_of" (defArgs s__law_tags_of) (defBody s__law_tags_of) (defScope s__law_tags_of) .none kV4 dc4 pm4 an4 cd4 ct4), sl4⟩) (c4 : PySem.W.codeIn K cd4 "_law_tags_of" = true) (k4 : PySem.W.keepIn K (.ref f4) = true)
    (a5 : PySem.W.nsIn K mainGlobals "_law_numbers_of" = some (some (.ref f5))) (l5 : K.lookup f5 = some ⟨oc5, od5, .func (PySem.W.fnOf "_law_numbers_of" "_law_numbers_of" (defArgs s__law_numbers_of) (defBody s__law_numbers_of) (defScope s__law_numbers_of) .none kV5 dc5 pm5 an5 cd5 ct5), sl5⟩) (c5 : PySem.W.codeIn K cd5 "_law_numbers_of" = true) (k5 : PySem.W.keepIn K (.ref f5) = true)
    (a6 : PySem.W.nsIn K mainGlobals "_law_marks" = some (some (.ref f6))) (l6 : K.lookup f6 = some ⟨oc6, od6, .func (PySem.W.fnOf "_law_marks" "_law_marks" (defArgs s__law_marks) (defBody s__law_marks) (defScope s__law_marks) .none kV6 dc6 pm6 an6 cd6 ct6), sl6⟩) (c6 : PySem.W.codeIn K cd6 "_law_marks" = true) (k6 : PySem.W.keepIn K (.ref f6) = true)
    (a7 : PySem.W.nsIn K mainGlobals "_law_passes" = some (some (.ref f7))) (l7 : K.lookup f7 = some ⟨oc7, od7, .func (PySem.W.fnOf "_law_passes" "_law_passes" (defArgs s__law_passes) (defBody s__law_passes) (defScope s__law_passes) .none kV7 dc7 pm7 an7 cd7 ct7), sl7⟩) (c7 : PySem.W.codeIn K cd7 "_law_passes" = true) (k7 : PySem.W.keepIn K (.ref f7) = true)
    (a8 : PySem.W.nsIn K mainGlobals "_law_standing" = some (some (.ref f8))) (l8 : K.lookup f8 = some ⟨oc8, od8, .func (PySem.W.fnOf "_law_standing" "_law_standing" (defArgs s__law_standing) (defBody s__law_standing) (defScope s__law_standing) .none kV8 dc8 pm8 an8 cd8 ct8), sl8⟩) (c8 : PySem.W.codeIn K cd8 "_law_standing" = true) (k8 : PySem.W.keepIn K (.ref f8) = true)
    (a9 : PySem.W.nsIn K mainGlobals "_law_letter" = some (some (.ref f9))) (l9 : K.lookup f9 = some ⟨oc9, od9, .func (PySem.W.fnOf "_law_letter" "_law_letter" (defArgs s__law_letter) (defBody s__law_letter) (defScope s__law_letter) .none kV9 dc9 pm9 an9 cd9 ct9), sl9⟩) (c9 : PySem.W.codeIn K cd9 "_law_letter" = true) (k9 : PySem.W.keepIn K (.ref f9) = true)
    (a10 : PySem.W.nsIn K mainGlobals "_law_kinds" = some (some (.ref f10))) (l10 : K.lookup f10 = some ⟨oc10, od10, .func (PySem.W.fnOf "_law_kinds" "_law_kinds" (defArgs s__law_kinds) (defBody s__law_kinds) (defScope s__law_kinds) .none kV10 dc10 pm10 an10 cd10 ct10), sl10⟩) (c10 : PySem.W.codeIn K cd10 "_law_kinds" = true) (k10 : PySem.W.keepIn K (.ref f10) = true)
    (a11 : PySem.W.nsIn K mainGlobals "_law_lesser" = some (some (.ref f11))) (l11 : K.lookup f11 = some ⟨oc11, od11, .func (PySem.W.fnOf "_law_lesser" "_law_lesser" (defArgs s__law_lesser) (defBody s__law_lesser) (defScope s__law_lesser) .none kV11 dc11 pm11 an11 cd11 ct11), sl11⟩) (c11 : PySem.W.codeIn K cd11 "_law_lesser" = true) (k11 : PySem.W.keepIn K (.ref f11) = true)
    (a12 : PySem.W.nsIn K mainGlobals "drop_closed" = some (some (.ref f12))) (l12 : K.lookup f12 = some ⟨oc12, od12, .func (PySem.W.fnOf "drop_closed" "drop_closed" (defArgs s_drop_closed) (defBody s_drop_closed) (defScope s_drop_closed) .none kV12 dc12 pm12 an12 cd12 ct12), sl12⟩) (c12 : PySem.W.codeIn K cd12 "drop_closed" = true) (k12 : PySem.W.keepIn K (.ref f12) = true)
    (a13 : PySem.W.nsIn K mainGlobals "drop_link" = some (some (.ref f13))) (l13 : K.lookup f13 = some ⟨oc13, od13, .func (PySem.W.fnOf "drop_link" "drop_link" (defArgs s_drop_link) (defBody s_drop_link) (defScope s_drop_link) .none kV13 dc13 pm13 an13 cd13 ct13), sl13⟩) (c13 : PySem.W.codeIn K cd13 "drop_link" = true) (k13 : PySem.W.keepIn K (.ref f13) = true)
    (a14 : PySem.W.nsIn K mainGlobals "drop_tag" = some (some (.ref f14))) (l14 : K.lookup f14 = some ⟨oc14, od14, .func (PySem.W.fnOf "drop_tag" "drop_tag" (defArgs s_drop_tag) (defBody s_drop_tag) (defScope s_drop_tag) .none kV14 dc14 pm14 an14 cd14 ct14), sl14⟩) (c14 : PySem.W.codeIn K cd14 "drop_tag" = true) (k14 : PySem.W.keepIn K (.ref f14) = true)
    (a15 : PySem.W.nsIn K mainGlobals "drop_number" = some (some (.ref f15))) (l15 : K.lookup f15 = some ⟨oc15, od15, .func (PySem.W.fnOf "drop_number" "drop_number" (defArgs s_drop_number) (defBody s_drop_number) (defScope s_drop_number) .none kV15 dc15 pm15 an15 cd15 ct15), sl15⟩) (c15 : PySem.W.codeIn K cd15 "drop_number" = true) (k15 : PySem.W.keepIn K (.ref f15) = true)
    (a16 : PySem.W.nsIn K mainGlobals "_law_pick" = some (some (.ref f16))) (l16 : K.lookup f16 = some ⟨oc16, od16, .func (PySem.W.fnOf "_law_pick" "_law_pick" (defArgs s__law_pick) (defBody s__law_pick) (defScope s__law_pick) .none kV16 dc16 pm16 an16 cd16 ct16), sl16⟩) (c16 : PySem.W.codeIn K cd16 "_law_pick" = true) (k16 : PySem.W.keepIn K (.ref f16) = true)
    (a17 : PySem.W.nsIn K mainGlobals "_law_pop" = some (some (.ref f17))) (l17 : K.lookup f17 = some ⟨oc17, od17, .func (PySem.W.fnOf "_law_pop" "_law_pop" (defArgs s__law_pop) (defBody s__law_pop) (defScope s__law_pop) .none kV17 dc17 pm17 an17 cd17 ct17), sl17⟩) (c17 : PySem.W.codeIn K cd17 "_law_pop" = true) (k17 : PySem.W.keepIn K (.ref f17) = true)
    (a18 : PySem.W.nsIn K mainGlobals "_law_rare" = some (some (.ref f18))) (l18 : K.lookup f18 = some ⟨oc18, od18, .func (PySem.W.fnOf "_law_rare" "_law_rare" (defArgs s__law_rare) (defBody s__law_rare) (defScope s__law_rare) .none kV18 dc18 pm18 an18 cd18 ct18), sl18⟩) (c18 : PySem.W.codeIn K cd18 "_law_rare" = true) (k18 : PySem.W.keepIn K (.ref f18) = true)
    (a19 : PySem.W.nsIn K mainGlobals "_law_some" = some (some (.ref f19))) (l19 : K.lookup f19 = some ⟨oc19, od19, .func (PySem.W.fnOf "_law_some" "_law_some" (defArgs s__law_some) (defBody s__law_some) (defScope s__law_some) .none kV19 dc19 pm19 an19 cd19 ct19), sl19⟩) (c19 : PySem.W.codeIn K cd19 "_law_some" = true) (k19 : PySem.W.keepIn K (.ref f19) = true)
    (a20 : PySem.W.nsIn K mainGlobals "_law_shuffled" = some (some (.ref f20))) (l20 : K.lookup f20 = some ⟨oc20, od20, .func (PySem.W.fnOf "_law_shuffled" "_law_shuffled" (defArgs s__law_shuffled) (defBody s__law_shuffled) (defScope s__law_shuffled) .none kV20 dc20 pm20 an20 cd20 ct20), sl20⟩) (c20 : PySem.W.codeIn K cd20 "_law_shuffled" = true) (k20 : PySem.W.keepIn K (.ref f20) = true)
    (a21 : PySem.W.nsIn K mainGlobals "_law_allowed" = some (some (.ref f21))) (l21 : K.lookup f21 = some ⟨oc21, od21, .func (PySem.W.fnOf "_law_allowed" "_law_allowed" (defArgs s__law_allowed) (defBody s__law_allowed) (defScope s__law_allowed) .none kV21 dc21 pm21 an21 cd21 ct21), sl21⟩) (c21 : PySem.W.codeIn K cd21 "_law_allowed" = true) (k21 : PySem.W.keepIn K (.ref f21) = true)
    (a22 : PySem.W.nsIn K mainGlobals "_law_full_sight" = some (some (.ref f22))) (l22 : K.lookup f22 = some ⟨oc22, od22, .func (PySem.W.fnOf "_law_full_sight" "_law_full_sight" (defArgs s__law_full_sight) (defBody s__law_full_sight) (defScope s__law_full_sight) .none kV22 dc22 pm22 an22 cd22 ct22), sl22⟩) (c22 : PySem.W.codeIn K cd22 "_law_full_sight" = true) (k22 : PySem.W.keepIn K (.ref f22) = true)
    (a23 : PySem.W.nsIn K mainGlobals "weaker" = some (some (.ref f23))) (l23 : K.lookup f23 = some ⟨oc23, od23, .func (PySem.W.fnOf "weaker" "weaker" (defArgs s_weaker) (defBody s_weaker) (defScope s_weaker) .none kV23 dc23 pm23 an23 cd23 ct23), sl23⟩) (c23 : PySem.W.codeIn K cd23 "weaker" = true) (k23 : PySem.W.keepIn K (.ref f23) = true)
    (a24 : PySem.W.nsIn K mainGlobals "_law_plan_ties" = some (some (.ref f24))) (l24 : K.lookup f24 = some ⟨oc24, od24, .func (PySem.W.fnOf "_law_plan_ties" "_law_plan_ties" (defArgs s__law_plan_ties) (defBody s__law_plan_ties) (defScope s__law_plan_ties) .none kV24 dc24 pm24 an24 cd24 ct24), sl24⟩) (c24 : PySem.W.codeIn K cd24 "_law_plan_ties" = true) (k24 : PySem.W.keepIn K (.ref f24) = true)
    (a25 : PySem.W.nsIn K mainGlobals "_law_plan_tests" = some (some (.ref f25))) (l25 : K.lookup f25 = some ⟨oc25, od25, .func (PySem.W.fnOf "_law_plan_tests" "_law_plan_tests" (defArgs s__law_plan_tests) (defBody s__law_plan_tests) (defScope s__law_plan_tests) .none kV25 dc25 pm25 an25 cd25 ct25), sl25⟩) (c25 : PySem.W.codeIn K cd25 "_law_plan_tests" = true) (k25 : PySem.W.keepIn K (.ref f25) = true)
    (a26 : PySem.W.nsIn K mainGlobals "_law_node_names" = some (some (.ref f26))) (l26 : K.lookup f26 = some ⟨oc26, od26, .func (PySem.W.fnOf "_law_node_names" "_law_node_names" (defArgs s__law_node_names) (defBody s__law_node_names) (defScope s__law_node_names) .none kV26 dc26 pm26 an26 cd26 ct26), sl26⟩) (c26 : PySem.W.codeIn K cd26 "_law_node_names" = true) (k26 : PySem.W.keepIn K (.ref f26) = true)
    (a27 : PySem.W.nsIn K mainGlobals "_law_drawn_nodes" = some (some (.ref f27))) (l27 : K.lookup f27 = some ⟨oc27, od27, .func (PySem.W.fnOf "_law_drawn_nodes" "_law_drawn_nodes" (defArgs s__law_drawn_nodes) (defBody s__law_drawn_nodes) (defScope s__law_drawn_nodes) .none kV27 dc27 pm27 an27 cd27 ct27), sl27⟩) (c27 : PySem.W.codeIn K cd27 "_law_drawn_nodes" = true) (k27 : PySem.W.keepIn K (.ref f27) = true)
    (a28 : PySem.W.nsIn K mainGlobals "_law_drawn_links" = some (some (.ref f28))) (l28 : K.lookup f28 = some ⟨oc28, od28, .func (PySem.W.fnOf "_law_drawn_links" "_law_drawn_links" (defArgs s__law_drawn_links) (defBody s__law_drawn_links) (defScope s__law_drawn_links) .none kV28 dc28 pm28 an28 cd28 ct28), sl28⟩) (c28 : PySem.W.codeIn K cd28 "_law_drawn_links" = true) (k28 : PySem.W.keepIn K (.ref f28) = true)
    (a29 : PySem.W.nsIn K mainGlobals "_law_drawn_numbers" = some (some (.ref f29))) (l29 : K.lookup f29 = some ⟨oc29, od29, .func (PySem.W.fnOf "_law_drawn_numbers" "_law_drawn_numbers" (defArgs s__law_drawn_numbers) (defBody s__law_drawn_numbers) (defScope s__law_drawn_numbers) .none kV29 dc29 pm29 an29 cd29 ct29), sl29⟩) (c29 : PySem.W.codeIn K cd29 "_law_drawn_numbers" = true) (k29 : PySem.W.keepIn K (.ref f29) = true)
    (a30 : PySem.W.nsIn K mainGlobals "_law_drawn_sight" = some (some (.ref f30))) (l30 : K.lookup f30 = some ⟨oc30, od30, .func (PySem.W.fnOf "_law_drawn_sight" "_law_drawn_sight" (defArgs s__law_drawn_sight) (defBody s__law_drawn_sight) (defScope s__law_drawn_sight) .none kV30 dc30 pm30 an30 cd30 ct30), sl30⟩) (c30 : PySem.W.codeIn K cd30 "_law_drawn_sight" = true) (k30 : PySem.W.keepIn K (.ref f30) = true)
    (a31 : PySem.W.nsIn K mainGlobals "_law_plan" = some (some (.ref f31))) (l31 : K.lookup f31 = some ⟨oc31, od31, .func (PySem.W.fnOf "_law_plan" "_law_plan" (defArgs s__law_plan) (defBody s__law_plan) (defScope s__law_plan) .none kV31 dc31 pm31 an31 cd31 ct31), sl31⟩) (c31 : PySem.W.codeIn K cd31 "_law_plan" = true) (k31 : PySem.W.keepIn K (.ref f31) = true)
    (a32 : PySem.W.nsIn K mainGlobals "_law_world" = some (some (.ref f32))) (l32 : K.lookup f32 = some ⟨oc32, od32, .func (PySem.W.fnOf "_law_world" "_law_world" (defArgs s__law_world) (defBody s__law_world) (defScope s__law_world) .none kV32 dc32 pm32 an32 cd32 ct32), sl32⟩) (c32 : PySem.W.codeIn K cd32 "_law_world" = true) (k32 : PySem.W.keepIn K (.ref f32) = true)
    (a33 : PySem.W.nsIn K mainGlobals "_law_one_sight" = some (some (.ref f33))) (l33 : K.lookup f33 = some ⟨oc33, od33, .func (PySem.W.fnOf "_law_one_sight" "_law_one_sight" (defArgs s__law_one_sight) (defBody s__law_one_sight) (defScope s__law_one_sight) .none kV33 dc33 pm33 an33 cd33 ct33), sl33⟩) (c33 : PySem.W.codeIn K cd33 "_law_one_sight" = true) (k33 : PySem.W.keepIn K (.ref f33) = true)
    (a34 : PySem.W.nsIn K mainGlobals "law" = some (some (.ref f34))) (l34 : K.lookup f34 = some ⟨oc34, od34, .func (PySem.W.fnOf "law" "law" (defArgs s_law) (defBody s_law) (defScope s_law) .none kV34 dc34 pm34 an34 cd34 ct34), sl34⟩) (c34 : PySem.W.codeIn K cd34 "law" = true) (k34 : PySem.W.keepIn K (.ref f34) = true)
    (z0 : PySem.W.nsIn K mainGlobals "tuple" = some none)
    (z1 : PySem.W.nsIn K mainGlobals "int" = some none)
    (z2 : PySem.W.nsIn K mainGlobals "len" = some none)
    (z3 : PySem.W.nsIn K mainGlobals "abs" = some none)
    (z4 : PySem.W.nsIn K mainGlobals "list" = some none)
    (z5 : PySem.W.nsIn K mainGlobals "range" = some none)
    (z6 : PySem.W.nsIn K mainGlobals "sorted" = some none)
    (z7 : PySem.W.nsIn K mainGlobals "str" = some none)
    (z8 : PySem.W.nsIn K mainGlobals "all" = some none)
    (z9 : PySem.W.nsIn K mainGlobals "max" = some none)
    (z10 : PySem.W.nsIn K mainGlobals "isinstance" = some none)
    (z11 : PySem.W.nsIn K mainGlobals "repr" = some none) :
    ∃ fd : FuncData, (∀ (s : Shared) (v : Value), BindsTo s fd ⟨[v], []⟩ [("_law_script", v)]) ∧ ∀ base : Heap, K.In base → base.Ns mainGlobals mg → FnG l.prog w K mg base 6 fa fd ["_law_script"] (lowS0 K) := by
  have e := hfa.symm.trans (PySem.W.mg_of X G a34)
  cases e
  have B : DL.Blt mg := ⟨PySem.W.mg_none_of X G z0, PySem.W.mg_none_of X G z1, PySem.W.mg_none_of X G z2, PySem.W.mg_none_of X G z3, PySem.W.mg_none_of X G z4, PySem.W.mg_none_of X G z5, PySem.W.mg_none_of X G z6, PySem.W.mg_none_of X G z7, PySem.W.mg_none_of X G z8, PySem.W.mg_none_of X G z9, PySem.W.mg_none_of X G z10, PySem.W.mg_none_of X G z11⟩
  have T_without : TopF K mg "without" "without" s_without ["rows", "row"] := top_mk X G a0 l0 c0 k0 fun _ _ _ _ _ _ us hl => match us, hl with | [_, _], _ => rfl
  have T__law_begin : TopF K mg "_law_begin" "_law_begin" s__law_begin ["_law_script"] := top_mk X G a1 l1 c1 k1 fun _ _ _ _ _ _ us hl => match us, hl with | [_], _ => rfl
  have T__law_draw : TopF K mg "_law_draw" "_law_draw" s__law_draw ["_law_d", "_law_many"] := top_mk X G a2 l2 c2 k2 fun _ _ _ _ _ _ us hl => match us, hl with | [_, _], _ => rfl
  have T__law_pool : TopF K mg "_law_pool" "_law_pool" s__law_pool [] := top_mk X G a3 l3 c3 k3 fun _ _ _ _ _ _ us hl => match us, hl with | [], _ => rfl
  have T__law_tags_of : TopF K mg "_law_tags_of" "_law_tags_of" s__law_tags_of ["_law_h", "_law_kind"] := top_mk X G a4 l4 c4 k4 fun _ _ _ _ _ _ us hl => match us, hl with | [_, _], _ => rfl
  have T__law_numbers_of : TopF K mg "_law_numbers_of" "_law_numbers_of" s__law_numbers_of ["_law_h", "_law_kind"] := top_mk X G a5 l5 c5 k5 fun _ _ _ _ _ _ us hl => match us, hl with | [_, _], _ => rfl
  have T__law_marks : TopF K mg "_law_marks" "_law_marks" s__law_marks ["_law_h"] := top_mk X G a6 l6 c6 k6 fun _ _ _ _ _ _ us hl => match us, hl with | [_], _ => rfl
  have T__law_passes : TopF K mg "_law_passes" "_law_passes" s__law_passes ["_law_tests", "_law_marks_here"] := top_mk X G a7 l7 c7 k7 fun _ _ _ _ _ _ us hl => match us, hl with | [_, _], _ => rfl
  have T__law_standing : TopF K mg "_law_standing" "_law_standing" s__law_standing ["_law_h", "_law_kinds_here", "_law_name"] := top_mk X G a8 l8 c8 k8 fun _ _ _ _ _ _ us hl => match us, hl with | [_, _, _], _ => rfl
  have T__law_letter : TopF K mg "_law_letter" "_law_letter" s__law_letter ["_law_h", "_law_kinds_here", "_law_tie", "_law_end"] := top_mk X G a9 l9 c9 k9 fun _ _ _ _ _ _ us hl => match us, hl with | [_, _, _, _], _ => rfl
  have T__law_kinds : TopF K mg "_law_kinds" "_law_kinds" s__law_kinds ["_law_nodes"] := top_mk X G a10 l10 c10 k10 fun _ _ _ _ _ _ us hl => match us, hl with | [_], _ => rfl
  have T__law_lesser : TopF K mg "_law_lesser" "_law_lesser" s__law_lesser ["_law_sight"] := top_mk X G a11 l11 c11 k11 fun _ _ _ _ _ _ us hl => match us, hl with | [_], _ => rfl
  have T_drop_closed : TopF K mg "drop_closed" "drop_closed" s_drop_closed ["sight", "pair"] := top_mk X G a12 l12 c12 k12 fun _ _ _ _ _ _ us hl => match us, hl with | [_, _], _ => rfl
  have T_drop_link : TopF K mg "drop_link" "drop_link" s_drop_link ["sight", "link"] := top_mk X G a13 l13 c13 k13 fun _ _ _ _ _ _ us hl => match us, hl with | [_, _], _ => rfl
  have T_drop_tag : TopF K mg "drop_tag" "drop_tag" s_drop_tag ["sight", "row"] := top_mk X G a14 l14 c14 k14 fun _ _ _ _ _ _ us hl => match us, hl with | [_, _], _ => rfl
  have T_drop_number : TopF K mg "drop_number" "drop_number" s_drop_number ["sight", "row"] := top_mk X G a15 l15 c15 k15 fun _ _ _ _ _ _ us hl => match us, hl with | [_, _], _ => rfl
  have T__law_pick : TopF K mg "_law_pick" "_law_pick" s__law_pick ["_law_d", "_law_row"] := top_mk X G a16 l16 c16 k16 fun _ _ _ _ _ _ us hl => match us, hl with | [_, _], _ => rfl
  have T__law_pop : TopF K mg "_law_pop" "_law_pop" s__law_pop ["_law_d", "_law_row"] := top_mk X G a17 l17 c17 k17 fun _ _ _ _ _ _ us hl => match us, hl with | [_, _], _ => rfl
  have T__law_rare : TopF K mg "_law_rare" "_law_rare" s__law_rare ["_law_d", "_law_many"] := top_mk X G a18 l18 c18 k18 fun _ _ _ _ _ _ us hl => match us, hl with | [_, _], _ => rfl
  have T__law_some : TopF K mg "_law_some" "_law_some" s__law_some ["_law_d", "_law_row", "_law_least"] := top_mk X G a19 l19 c19 k19 fun _ _ _ _ _ _ us hl => match us, hl with | [_, _, _], _ => rfl
  have T__law_shuffled : TopF K mg "_law_shuffled" "_law_shuffled" s__law_shuffled ["_law_d", "_law_row"] := top_mk X G a20 l20 c20 k20 fun _ _ _ _ _ _ us hl => match us, hl with | [_, _], _ => rfl
  have T__law_allowed : TopF K mg "_law_allowed" "_law_allowed" s__law_allowed ["_law_h", "_law_standing_here", "_law_letter_here"] := top_mk X G a21 l21 c21 k21 fun _ _ _ _ _ _ us hl => match us, hl with | [_, _, _], _ => rfl
  have T__law_full_sight : TopF K mg "_law_full_sight" "_law_full_sight" s__law_full_sight ["_law_h", "_law_world_here"] := top_mk X G a22 l22 c22 k22 fun _ _ _ _ _ _ us hl => match us, hl with | [_, _], _ => rfl
  have T_weaker : TopF K mg "weaker" "weaker" s_weaker ["sight"] := top_mk X G a23 l23 c23 k23 fun _ _ _ _ _ _ us hl => match us, hl with | [_], _ => rfl
  have T__law_plan_ties : TopF K mg "_law_plan_ties" "_law_plan_ties" s__law_plan_ties ["_law_d", "_law_h", "_law_pool_here", "_law_rich"] := top_mk X G a24 l24 c24 k24 fun _ _ _ _ _ _ us hl => match us, hl with | [_, _, _, _], _ => rfl
  have T__law_plan_tests : TopF K mg "_law_plan_tests" "_law_plan_tests" s__law_plan_tests ["_law_d", "_law_marks_here"] := top_mk X G a25 l25 c25 k25 fun _ _ _ _ _ _ us hl => match us, hl with | [_, _], _ => rfl
  have T__law_node_names : TopF K mg "_law_node_names" "_law_node_names" s__law_node_names ["_law_d", "_law_pool_here", "_law_many"] := top_mk X G a26 l26 c26 k26 fun _ _ _ _ _ _ us hl => match us, hl with | [_, _, _], _ => rfl
  have T__law_drawn_nodes : TopF K mg "_law_drawn_nodes" "_law_drawn_nodes" s__law_drawn_nodes ["_law_d", "_law_h", "_law_names"] := top_mk X G a27 l27 c27 k27 fun _ _ _ _ _ _ us hl => match us, hl with | [_, _, _], _ => rfl
  have T__law_drawn_links : TopF K mg "_law_drawn_links" "_law_drawn_links" s__law_drawn_links ["_law_d", "_law_h", "_law_nodes", "_law_many"] := top_mk X G a28 l28 c28 k28 fun _ _ _ _ _ _ us hl => match us, hl with | [_, _, _, _], _ => rfl
  have T__law_drawn_numbers : TopF K mg "_law_drawn_numbers" "_law_drawn_numbers" s__law_drawn_numbers ["_law_d", "_law_h", "_law_nodes"] := top_mk X G a29 l29 c29 k29 fun _ _ _ _ _ _ us hl => match us, hl with | [_, _, _], _ => rfl
  have T__law_drawn_sight : TopF K mg "_law_drawn_sight" "_law_drawn_sight" s__law_drawn_sight ["_law_d", "_law_h", "_law_world_here", "_law_share"] := top_mk X G a30 l30 c30 k30 fun _ _ _ _ _ _ us hl => match us, hl with | [_, _, _, _], _ => rfl
  have T__law_plan : TopF K mg "_law_plan" "_law_plan" s__law_plan ["_law_d", "_law_pool_here", "_law_rich"] := top_mk X G a31 l31 c31 k31 fun _ _ _ _ _ _ us hl => match us, hl with | [_, _, _], _ => rfl
  have T__law_world : TopF K mg "_law_world" "_law_world" s__law_world ["_law_d", "_law_h", "_law_pool_here", "_law_many", "_law_links"] := top_mk X G a32 l32 c32 k32 fun _ _ _ _ _ _ us hl => match us, hl with | [_, _, _, _, _], _ => rfl
  have T__law_one_sight : TopF K mg "_law_one_sight" "_law_one_sight" s__law_one_sight ["_law_d", "_law_h", "_law_pool_here"] := top_mk X G a33 l33 c33 k33 fun _ _ _ _ _ _ us hl => match us, hl with | [_, _, _], _ => rfl
  refine ⟨PySem.W.fnOf "law" "law" (defArgs s_law) (defBody s_law) (defScope s_law) .none kV34 dc34 pm34 an34 cd34 ct34, fun s v => .of_eq rfl, fun base _ _ => ?_⟩
  have G_without : Good l.prog w K mg base 1 "without" ["rows", "row"] sp_without := good_without T_without B len_without sat_without
  have G__law_begin : Good l.prog w K mg base 1 "_law_begin" ["_law_script"] sp__law_begin := good__law_begin T__law_begin B len__law_begin sat__law_begin
  have G__law_draw : Good l.prog w K mg base 1 "_law_draw" ["_law_d", "_law_many"] sp__law_draw := good__law_draw T__law_draw B len__law_draw sat__law_draw
  have G__law_pool : Good l.prog w K mg base 1 "_law_pool" [] sp__law_pool := good__law_pool T__law_pool B len__law_pool sat__law_pool
  have G__law_tags_of : Good l.prog w K mg base 1 "_law_tags_of" ["_law_h", "_law_kind"] sp__law_tags_of := good__law_tags_of T__law_tags_of B len__law_tags_of sat__law_tags_of
  have G__law_numbers_of : Good l.prog w K mg base 1 "_law_numbers_of" ["_law_h", "_law_kind"] sp__law_numbers_of := good__law_numbers_of T__law_numbers_of B len__law_numbers_of sat__law_numbers_of
  have G__law_marks : Good l.prog w K mg base 1 "_law_marks" ["_law_h"] sp__law_marks := good__law_marks T__law_marks B len__law_marks sat__law_marks
  have G__law_passes : Good l.prog w K mg base 1 "_law_passes" ["_law_tests", "_law_marks_here"] sp__law_passes := good__law_passes T__law_passes B len__law_passes sat__law_passes
  have G__law_standing : Good l.prog w K mg base 1 "_law_standing" ["_law_h", "_law_kinds_here", "_law_name"] sp__law_standing := good__law_standing T__law_standing B len__law_standing sat__law_standing
  have G__law_letter : Good l.prog w K mg base 1 "_law_letter" ["_law_h", "_law_kinds_here", "_law_tie", "_law_end"] sp__law_letter := good__law_letter T__law_letter B len__law_letter sat__law_letter
  have G__law_kinds : Good l.prog w K mg base 1 "_law_kinds" ["_law_nodes"] sp__law_kinds := good__law_kinds T__law_kinds B len__law_kinds sat__law_kinds
  have G__law_lesser : Good l.prog w K mg base 1 "_law_lesser" ["_law_sight"] sp__law_lesser := good__law_lesser T__law_lesser B len__law_lesser sat__law_lesser
  have G_drop_closed : Good l.prog w K mg base 2 "drop_closed" ["sight", "pair"] sp_drop_closed := good_drop_closed T_drop_closed B G_without len_drop_closed sat_drop_closed
  have G_drop_link : Good l.prog w K mg base 2 "drop_link" ["sight", "link"] sp_drop_link := good_drop_link T_drop_link B G_without len_drop_link sat_drop_link
  have G_drop_tag : Good l.prog w K mg base 2 "drop_tag" ["sight", "row"] sp_drop_tag := good_drop_tag T_drop_tag B G_without len_drop_tag sat_drop_tag
  have G_drop_number : Good l.prog w K mg base 2 "drop_number" ["sight", "row"] sp_drop_number := good_drop_number T_drop_number B G_without len_drop_number sat_drop_number
  have G__law_pick : Good l.prog w K mg base 2 "_law_pick" ["_law_d", "_law_row"] sp__law_pick := good__law_pick T__law_pick B G__law_draw len__law_pick sat__law_pick
  have G__law_pop : Good l.prog w K mg base 2 "_law_pop" ["_law_d", "_law_row"] sp__law_pop := good__law_pop T__law_pop B G__law_draw len__law_pop sat__law_pop
  have G__law_rare : Good l.prog w K mg base 2 "_law_rare" ["_law_d", "_law_many"] sp__law_rare := good__law_rare T__law_rare B G__law_draw len__law_rare sat__law_rare
  have G__law_some : Good l.prog w K mg base 2 "_law_some" ["_law_d", "_law_row", "_law_least"] sp__law_some := good__law_some T__law_some B G__law_draw len__law_some sat__law_some
  have G__law_shuffled : Good l.prog w K mg base 2 "_law_shuffled" ["_law_d", "_law_row"] sp__law_shuffled := good__law_shuffled T__law_shuffled B G__law_draw len__law_shuffled sat__law_shuffled
  have G__law_allowed : Good l.prog w K mg base 2 "_law_allowed" ["_law_h", "_law_standing_here", "_law_letter_here"] sp__law_allowed := good__law_allowed T__law_allowed B G__law_tags_of G__law_passes len__law_allowed sat__law_allowed
  have G__law_full_sight : Good l.prog w K mg base 2 "_law_full_sight" ["_law_h", "_law_world_here"] sp__law_full_sight := good__law_full_sight T__law_full_sight B G__law_tags_of len__law_full_sight sat__law_full_sight
  have G_weaker : Good l.prog w K mg base 3 "weaker" ["sight"] sp_weaker := good_weaker T_weaker B G_drop_closed G_drop_link G_drop_tag G_drop_number len_weaker sat_weaker
  have G__law_plan_ties : Good l.prog w K mg base 3 "_law_plan_ties" ["_law_d", "_law_h", "_law_pool_here", "_law_rich"] sp__law_plan_ties := good__law_plan_ties T__law_plan_ties B G__law_pop G__law_draw G__law_some G__law_shuffled len__law_plan_ties sat__law_plan_ties
  have G__law_plan_tests : Good l.prog w K mg base 3 "_law_plan_tests" ["_law_d", "_law_marks_here"] sp__law_plan_tests := good__law_plan_tests T__law_plan_tests B G__law_shuffled G__law_draw len__law_plan_tests sat__law_plan_tests
  have G__law_node_names : Good l.prog w K mg base 3 "_law_node_names" ["_law_d", "_law_pool_here", "_law_many"] sp__law_node_names := good__law_node_names T__law_node_names B G__law_pop len__law_node_names sat__law_node_names
  have G__law_drawn_nodes : Good l.prog w K mg base 3 "_law_drawn_nodes" ["_law_d", "_law_h", "_law_names"] sp__law_drawn_nodes := good__law_drawn_nodes T__law_drawn_nodes B G__law_draw G__law_pick G__law_tags_of len__law_drawn_nodes sat__law_drawn_nodes
  have G__law_drawn_links : Good l.prog w K mg base 3 "_law_drawn_links" ["_law_d", "_law_h", "_law_nodes", "_law_many"] sp__law_drawn_links := good__law_drawn_links T__law_drawn_links B G__law_kinds G__law_pick G__law_allowed G__law_letter G__law_standing len__law_drawn_links sat__law_drawn_links
  have G__law_drawn_numbers : Good l.prog w K mg base 3 "_law_drawn_numbers" ["_law_d", "_law_h", "_law_nodes"] sp__law_drawn_numbers := good__law_drawn_numbers T__law_drawn_numbers B G__law_numbers_of G__law_draw G__law_pick len__law_drawn_numbers sat__law_drawn_numbers
  have G__law_drawn_sight : Good l.prog w K mg base 3 "_law_drawn_sight" ["_law_d", "_law_h", "_law_world_here", "_law_share"] sp__law_drawn_sight := good__law_drawn_sight T__law_drawn_sight B G__law_full_sight G__law_draw len__law_drawn_sight sat__law_drawn_sight
  have G__law_plan : Good l.prog w K mg base 4 "_law_plan" ["_law_d", "_law_pool_here", "_law_rich"] sp__law_plan := good__law_plan T__law_plan B G__law_draw G__law_pop G__law_some G__law_plan_ties G__law_marks G__law_plan_tests G__law_pick len__law_plan sat__law_plan
  have G__law_world : Good l.prog w K mg base 4 "_law_world" ["_law_d", "_law_h", "_law_pool_here", "_law_many", "_law_links"] sp__law_world := good__law_world T__law_world B G__law_drawn_nodes G__law_node_names G__law_drawn_numbers G__law_drawn_links len__law_world sat__law_world
  have G__law_one_sight : Good l.prog w K mg base 5 "_law_one_sight" ["_law_d", "_law_h", "_law_pool_here"] sp__law_one_sight := good__law_one_sight T__law_one_sight B G__law_rare G__law_draw G__law_world G__law_full_sight G__law_drawn_sight len__law_one_sight sat__law_one_sight
  exact (fn_law (fun_mk (st := s_law) l34 c34 k34) B G__law_begin G__law_pool G__law_plan G__law_draw G__law_one_sight G__law_lesser G_weaker len_law sat_law).imp fun _ _ _ _ q => q w
open PySem PySem.W PyProof.Rows
set_option maxRecDepth 100000 in
set_option maxHeartbeats 0 in
theorem PySem.Challenge.cw_leaveledger_k63_weaker_holds : PySem.Challenge.rw_leaveledger_k63_weaker.Holds := by
  w_on; o_law; k_head; (case hw => w_witness2)
  k_fill
  refine DL.walk_ofG (l := PySem.Challenge.rw_leaveledger_k63_weaker) (n := 63) (k := 6) (x := "_law_script") (sp := fun K => DL.lowS0 K) rfl (by decide) rfl ⟨⟨rfl, by decide, by decide⟩, rfl⟩ (fun w h Y => PySem.W.kIn_of Y) ?F (fun _ _ _ _ hl ho hs => DL.law_start hl ho hs)
  case F =>
    intro w mg fa h KX G hmg
    refine' DL.all_mk KX G hmg ?a0 ?l0 ?c0 ?k0 ?a1 ?l1 ?c1 ?k1 ?a2 ?l2 ?c2 ?k2 ?a3 ?l3 ?c3 ?k3 ?a4 ?l4 ?c4 ?k4 ?a5 ?l5 ?c5 ?k5 ?a6 ?l6 ?c6 ?k6 ?a7 ?l7 ?c7 ?k7 ?a8 ?l8 ?c8 ?k8 ?a9 ?l9 ?c9 ?k9 ?a10 ?l10 ?c10 ?k10 ?a11 ?l11 ?c11 ?k11 ?a12 ?l12 ?c12 ?k12 ?a13 ?l13 ?c13 ?k13 ?a14 ?l14 ?c14 ?k14 ?a15 ?l15 ?c15 ?k15 ?a16 ?l16 ?c16 ?k16 ?a17 ?l17 ?c17 ?k17 ?a18 ?l18 ?c18 ?k18 ?a19 ?l19 ?c19 ?k19 ?a20 ?l20 ?c20 ?k20 ?a21 ?l21 ?c21 ?k21 ?a22 ?l22 ?c22 ?k22 ?a23 ?l23 ?c23 ?k23 ?a24 ?l24 ?c24 ?k24 ?a25 ?l25 ?c25 ?k25 ?a26 ?l26 ?c26 ?k26 ?a27 ?l27 ?c27 ?k27 ?a28 ?l28 ?c28 ?k28 ?a29 ?l29 ?c29 ?k29 ?a30 ?l30 ?c30 ?k30 ?a31 ?l31 ?c31 ?k31 ?a32 ?l32 ?c32 ?k32 ?a33 ?l33 ?c33 ?k33 ?a34 ?l34 ?c34 ?k34 ?z0 ?z1 ?z2 ?z3 ?z4 ?z5 ?z6 ?z7 ?z8 ?z9 ?z10 ?z11
    (case a0 => k_is)
    (case l0 => k_is)
    (case c0 => k_is)
    (case k0 => k_is)
    (case a1 => k_is)
    (case l1 => k_is)
    (case c1 => k_is)
    (case k1 => k_is)
    (case a2 => k_is)
    (case l2 => k_is)
    (case c2 => k_is)
    (case k2 => k_is)
    (case a3 => k_is)
    (case l3 => k_is)
    (case c3 => k_is)
    (case k3 => k_is)
    (case a4 => k_is)
    (case l4 => k_is)
    (case c4 => k_is)
    (case k4 => k_is)
    (case a5 => k_is)
    (case l5 => k_is)
    (case c5 => k_is)
    (case k5 => k_is)
    (case a6 => k_is)
    (case l6 => k_is)
    (case c6 => k_is)
    (case k6 => k_is)
    (case a7 => k_is)
    (case l7 => k_is)
    (case c7 => k_is)
    (case k7 => k_is)
    (case a8 => k_is)
    (case l8 => k_is)
    (case c8 => k_is)
    (case k8 => k_is)
    (case a9 => k_is)
    (case l9 => k_is)
    (case c9 => k_is)
    (case k9 => k_is)
    (case a10 => k_is)
    (case l10 => k_is)
    (case c10 => k_is)
    (case k10 => k_is)
    (case a11 => k_is)
    (case l11 => k_is)
    (case c11 => k_is)
    (case k11 => k_is)
    (case a12 => k_is)
    (case l12 => k_is)
    (case c12 => k_is)
    (case k12 => k_is)
    (case a13 => k_is)
    (case l13 => k_is)
    (case c13 => k_is)
    (case k13 => k_is)
    (case a14 => k_is)
    (case l14 => k_is)
    (case c14 => k_is)
    (case k14 => k_is)
    (case a15 => k_is)
    (case l15 => k_is)
    (case c15 => k_is)
    (case k15 => k_is)
    (case a16 => k_is)
    (case l16 => k_is)
    (case c16 => k_is)
    (case k16 => k_is)
    (case a17 => k_is)
    (case l17 => k_is)
    (case c17 => k_is)
    (case k17 => k_is)
    (case a18 => k_is)
    (case l18 => k_is)
    (case c18 => k_is)
    (case k18 => k_is)
    (case a19 => k_is)
    (case l19 => k_is)
    (case c19 => k_is)
    (case k19 => k_is)
    (case a20 => k_is)
    (case l20 => k_is)
    (case c20 => k_is)
    (case k20 => k_is)
    (case a21 => k_is)
    (case l21 => k_is)
    (case c21 => k_is)
    (case k21 => k_is)
    (case a22 => k_is)
    (case l22 => k_is)
    (case c22 => k_is)
    (case k22 => k_is)
    (case a23 => k_is)
    (case l23 => k_is)
    (case c23 => k_is)
    (case k23 => k_is)
    (case a24 => k_is)
    (case l24 => k_is)
    (case c24 => k_is)
    (case k24 => k_is)
    (case a25 => k_is)
    (case l25 => k_is)
    (case c25 => k_is)
    (case k25 => k_is)
    (case a26 => k_is)
    (case l26 => k_is)
    (case c26 => k_is)
    (case k26 => k_is)
    (case a27 => k_is)
    (case l27 => k_is)
    (case c27 => k_is)
    (case k27 => k_is)
    (case a28 => k_is)
    (case l28 => k_is)
    (case c28 => k_is)
    (case k28 => k_is)
    (case a29 => k_is)
    (case l29 => k_is)
    (case c29 => k_is)
    (case k29 => k_is)
    (case a30 => k_is)
    (case l30 => k_is)
    (case c30 => k_is)
    (case k30 => k_is)
    (case a31 => k_is)
    (case l31 => k_is)
    (case c31 => k_is)
    (case k31 => k_is)
    (case a32 => k_is)
    (case l32 => k_is)
    (case c32 => k_is)
    (case k32 => k_is)
    (case a33 => k_is)
    (case l33 => k_is)
    (case c33 => k_is)
    (case k33 => k_is)
    (case a34 => k_is)
    (case l34 => k_is)
    (case c34 => k_is)
    (case k34 => k_is)
    (case z0 => k_is)
    (case z1 => k_is)
    (case z2 => k_is)
    (case z3 => k_is)
    (case z4 => k_is)
    (case z5 => k_is)
    (case z6 => k_is)
    (case z7 => k_is)
    (case z8 => k_is)
    (case z9 => k_is)
    (case z10 => k_is)
    (case z11 => k_is)
