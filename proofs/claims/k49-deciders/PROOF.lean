import PyProof.Rows.All
import Wide.All
import OpenK.AllK
import Wide.FinOn
import PySem.Challenge.RW_leaveledger_k49_deciders
import HandS.ForMost
import HandS.WordsDict
import KE.KDictKeyed
import HandS.Wide
import HandS.WideBits
import HandS.IsInst
import HandS.TupAny
import HandS.Deep
import HandS.Style
import HandS.Zip
import HandS.More
import KE.GoesMore
import PyProof.StrLawsRepr
import HandS.RaiseMore
import HandS.DictComp
import KE.GoesZip
import KE.GoesEnum
import HandS.Text
import KE.SortCalls
import KE.KDictCopyH
import HandS.Property
import KE.BitLaws
set_option Elab.async false
set_option linter.all false
set_option maxRecDepth 100000
set_option maxHeartbeats 4000000
namespace DL
open PySem PySem.Spec PyProof.Rows L2
/-! ### dicts whose keys are tuples (to depth 8), below the data level -/
abbrev NK := NestedKey
mutual
/-- the value is the key -/
def KIs (K : PySem.W.Frag) (H : Hp) : NK → V → Prop
  | .none, v => v = .non
  | .num i, v => v = .int i ∨ ∃ b, v = .bl b ∧ i = (if b = true then 1 else 0)
  | .text x, v => v = .str x
  | .tup ks, v => ∃ a vs, v = .ref a ∧ SqT K H a vs ∧ KAll K H ks vs
def KAll (K : PySem.W.Frag) (H : Hp) : List NK → List V → Prop
  | [], vs => vs = []
  | k :: ks, vs => ∃ v r, vs = v :: r ∧ KIs K H k v ∧ KAll K H ks r
end
section
variable {X : Cx} {pins : List (Addr × Obj)} {σ : L2.St} {H : Hp} {s : Shared} {a : Addr}
mutual
theorem kis_heap (I : Inv X pins σ H s) : ∀ (k : NK) {v : V} {u : Value}, KIs X.K H k v → RelV v u → NestedIs s.heap k u
  | .none, _, _, q, r => by cases (show _ = _ from q); cases r; exact .none
  | .num i, _, _, q, r => by
    rcases (show _ ∨ _ from q) with rfl | ⟨b, rfl, e⟩
    · obtain ⟨t, rfl⟩ := r; exact .int _ _
    · cases r; exact .bool e
  | .text x, _, _, q, r => by cases (show _ = _ from q); obtain ⟨t, rfl⟩ := r; exact .text _ _
  | .tup ks, _, _, q, r => by
    obtain ⟨b, vs, rfl, st, qs⟩ := q
    cases r
    obtain ⟨its, rs, ⟨o, e, c, n, d⟩, _⟩ := I.tuple st
    exact .tup e c d (by simpa using kall_heap I ks qs rs)
theorem kall_heap (I : Inv X pins σ H s) : ∀ (ks : List NK) {vs : List V} {us : List Value}, KAll X.K H ks vs → Vals vs us → NestedAll s.heap ks us
  | [], _, _, q, r => by cases (show _ = [] from q); cases r; exact .nil
  | k :: ks, _, _, q, r => by
    obtain ⟨v, w, rfl, q1, q2⟩ := q
    cases r with
    | cons r1 r2 => exact .cons (kis_heap I k q1 r1) (kall_heap I ks q2 r2)
end
end
/-- entries: the key, its value, what stands at it -/
abbrev Ent := NK × V × V
def entOk (w : World) (x : Ent) (e : DictEntry) : Prop := e.hash = x.1.hash w ∧ RelV x.2.1 e.key ∧ RelV x.2.2 e.val
def dphi (w : World) (a : Addr) (xs : List Ent) : Heap → Prop := fun h => ∃ o es ep, h.get? a = some o ∧ o.ExactDict ∧ o.data = .dict es ep ∧ Paired (entOk w) xs es.toList
def dobj (w : World) (a : Addr) (xs : List Ent) : HO := .ext (dphi w a xs)
theorem dphi_stay {w : World} {a : Addr} {xs : List Ent} (h1 h2 : Heap) (x : dphi w a xs h1) (k : ∀ o, h1.get? a = some o → h2.get? a = some o) : dphi w a xs h2 :=
  let ⟨o, es, ep, e, r⟩ := x; ⟨o, es, ep, k o e, r⟩
theorem dobj_ok {P : Program} {w : World} {H : Hp} {h : Heap} {a : Addr} {xs : List Ent} (x : dphi w a xs h) : ObjOk P w H h a (dobj w a xs) :=
  ⟨x, let ⟨o, _, _, e, _⟩ := x; ⟨o, e⟩, dphi_stay⟩
/-- what is asked of the keys that stand: tuples, to depth 8, all different -/
structure NDict (X : Cx) (H : Hp) (a : Addr) (xs : List Ent) : Prop where
  at_ : H a = some (dobj X.w a xs)
  low : (a == sysModules) = false
  len : xs.length ≤ sizeLine
  key : ∀ x ∈ xs, (∃ ks, x.1 = .tup ks) ∧ x.1.depth ≤ 8 ∧ KIs X.K H x.1 x.2.1
  nd : (xs.map (·.1)).Nodup
abbrev nkd (X : Cx) : HeapKind X.prog X.w NK := nestedKind X.prog X.w
def entH (x : Ent) (e : DictEntry) : NK × Addr × Value := (x.1, (match e.key with | .ref b => b | _ => 0), e.val)
section
variable {X : Cx} {pins : List (Addr × Obj)} {σ : L2.St} {H : Hp} {s : Shared} {a : Addr} {xs : List Ent}
theorem ents_of (I : Inv X pins σ H s) : ∀ {xs : List Ent} {es : List DictEntry}, Paired (entOk X.w) xs es → (∀ x ∈ xs, (∃ ks, x.1 = .tup ks) ∧ x.1.depth ≤ 8 ∧ KIs X.K H x.1 x.2.1) →
    ∃ ys : List (NK × Addr × Value), es = ys.map (entryOfKey (nkd X)) ∧ (∀ y ∈ ys, (nkd X).is s.heap y.1 y.2.1) ∧ Paired (fun (x : Ent) (y : NK × Addr × Value) => x.1 = y.1 ∧ x.2.1 = .ref y.2.1 ∧ RelV x.2.2 y.2.2) xs ys
  | _, _, .nil, _ => ⟨[], rfl, by simp, .nil⟩
  | _, _, @Paired.cons _ _ _ x e _ _ ⟨h1, h2, h3⟩ t, k => by
    obtain ⟨ys, e1, e2, e3⟩ := ents_of I t fun y hy => k y (by simp [hy])
    obtain ⟨⟨ks, ek⟩, dp, kk⟩ := k x (by simp)
    have ki := kis_heap I _ kk h2
    have kk' := kk
    rw [ek] at kk'
    obtain ⟨b, vs, ev, _, _⟩ := kk'
    rw [ev] at h2 kk
    have eb : e.key = .ref b := h2
    rw [eb] at ki
    refine ⟨(x.1, b, e.val) :: ys, ?_, ?_, .cons ⟨rfl, ev, h3⟩ e3⟩
    · rw [e1, List.map_cons]
      congr 1
      obtain ⟨eh, ekk, evv⟩ := e
      show DictEntry.mk eh ekk evv = DictEntry.mk (x.1.hash X.w) (.ref b) evv
      rw [show eh = x.1.hash X.w from h1, show ekk = .ref b from eb]
    · intro y hy
      rcases List.mem_cons.mp hy with rfl | hy
      · exact ⟨ki, dp⟩
      · exact e2 y hy
theorem ent_keys {xs : List Ent} {ys : List (NK × Addr × Value)} (p : Paired (fun (x : Ent) (y : NK × Addr × Value) => x.1 = y.1 ∧ x.2.1 = .ref y.2.1 ∧ RelV x.2.2 y.2.2) xs ys) : xs.map (·.1) = ys.map (·.1) := by
  induction p with
  | nil => rfl
  | cons q _ ih => rw [List.map_cons, List.map_cons, ih, q.1]
theorem NDict.heap (I : Inv X pins σ H s) (D : NDict X H a xs) : ∃ ys, s.heap.DictOfH (nkd X) a ys ∧ Paired (fun (x : Ent) (y : NK × Addr × Value) => x.1 = y.1 ∧ x.2.1 = .ref y.2.1 ∧ RelV x.2.2 y.2.2) xs ys := by
  obtain ⟨⟨o, es, ep, e, c, d, p⟩, _⟩ := (show ObjOk X.prog X.w H s.heap a (dobj X.w a xs) from I.hok a _ D.at_)
  obtain ⟨ys, e1, e2, e3⟩ := ents_of I p D.key
  have ek := ent_keys e3
  exact ⟨ys, ⟨o, es, ep, e, c, d, e1, e2, by rw [← ek]; exact D.nd⟩, e3⟩
/-- look-ups -/
def entAt (xs : List Ent) (k : NK) : Option V := (xs.find? fun x => decide (x.1 = k)).map (·.2.2)
theorem ent_val {xs : List Ent} {ys : List (NK × Addr × Value)} (p : Paired (fun (x : Ent) (y : NK × Addr × Value) => x.1 = y.1 ∧ x.2.1 = .ref y.2.1 ∧ RelV x.2.2 y.2.2) xs ys) (k : NK) : RelO (entAt xs k) ((atKey ys k).map (·.2)) := by
  induction p with
  | nil => exact True.intro
  | @cons x y _ _ h t ih =>
    unfold entAt atKey at ih ⊢
    by_cases e : x.1 = k
    · rw [List.find?_cons_of_pos (by simp [e]), List.find?_cons_of_pos (by simp [← h.1, e])]
      exact h.2.2
    · rw [List.find?_cons_of_neg (by simp [e]), List.find?_cons_of_neg (by simp [← h.1, e])]
      exact ih
/-- a key that may be asked -/
structure NKey (X : Cx) (H : Hp) (k : NK) (v : V) : Prop where
  tup : ∃ ks, k = .tup ks
  dep : k.depth ≤ 8
  is_ : KIs X.K H k v
theorem NKey.heap (I : Inv X pins σ H s) {k : NK} {v : V} {u : Value} (q : NKey X H k v) (r : RelV v u) : ∃ b, v = .ref b ∧ u = .ref b ∧ (nkd X).is s.heap k b := by
  obtain ⟨⟨ks, rfl⟩, d, i⟩ := q
  have n := kis_heap I _ i r
  obtain ⟨b, vs, rfl, _⟩ := i
  cases r
  exact ⟨b, rfl, rfl, n, d⟩
theorem nroom {A : Around} (hu : A.units + 64 < cLine) : (nkd X).room A.in1 := by show A.units + 1 + 8 < cLine; omega
variable {k : NK} {v : V} {u : Value} {E : Value → Shared → Prop}
theorem n_getItem {Q : Value → Shared → Prop} {r : V} (hu : X.A.units + 64 < cLine) (I : Inv X pins σ H s) (D : NDict X H a xs) (q : NKey X H k v) (rv : RelV v u) (e : entAt xs k = some r) (h : ∀ w' s', Inv X pins σ H s' → RelV r w' → Q w' s') :
    wpAny (model X.prog X.w) X.A (getItem (.ref a) u) Q E s := by
  obtain ⟨ys, dh, p⟩ := D.heap I
  obtain ⟨b, rfl, rfl, ki⟩ := q.heap I rv
  have rel := ent_val p k
  rw [e] at rel
  cases hz : atKey ys k with
  | none => rw [hz] at rel; exact rel.elim
  | some y =>
    rw [hz] at rel
    exact wpAny_getItem_heap (nroom hu) ki dh hz (h _ _ (I.tok _) rel)
theorem n_in {Q : Value → Shared → Prop} (hu : X.A.units + 64 < cLine) (I : Inv X pins σ H s) (D : NDict X H a xs) (q : NKey X H k v) (rv : RelV v u) (h : ∀ s', Inv X pins σ H s' → Q (.bool (entAt xs k).isSome) s') :
    wpAny (model X.prog X.w) X.A (compareOp .In u (.ref a)) Q E s := by
  obtain ⟨ys, dh, p⟩ := D.heap I
  obtain ⟨b, rfl, rfl, ki⟩ := q.heap I rv
  refine wpAny_in_heap (nroom hu) ki D.low dh ?_
  have rel := (ent_val p k).isSome_eq
  rw [Option.isSome_map] at rel
  rw [← rel]; exact h _ (I.tok _)
theorem n_notIn {Q : Value → Shared → Prop} (hu : X.A.units + 64 < cLine) (I : Inv X pins σ H s) (D : NDict X H a xs) (q : NKey X H k v) (rv : RelV v u) (h : ∀ s', Inv X pins σ H s' → Q (.bool (!(entAt xs k).isSome)) s') :
    wpAny (model X.prog X.w) X.A (compareOp .NotIn u (.ref a)) Q E s := by
  obtain ⟨ys, dh, p⟩ := D.heap I
  obtain ⟨b, rfl, rfl, ki⟩ := q.heap I rv
  refine notIn_keyed (nroom hu) ki D.low ⟨ys, dh, rfl⟩ ?_
  rw [valueAt_pairsH, Option.isSome_map]
  have rel := (ent_val p k).isSome_eq
  rw [Option.isSome_map] at rel
  rw [← rel]; exact h _ (I.tok _)
/-- a store: in its place, or at the end -/
def entPut (xs : List Ent) (k : NK) (v r : V) : List Ent := if (entAt xs k).isSome = true then xs.map (fun x => if x.1 = k then (x.1, x.2.1, r) else x) else xs ++ [(k, v, r)]
theorem entPut_keys (xs : List Ent) (k : NK) (v r : V) : (entPut xs k v r).map (·.1) = if (entAt xs k).isSome = true then xs.map (·.1) else xs.map (·.1) ++ [k] := by
  unfold entPut; split
  · rw [List.map_map]; refine List.map_congr_left fun x _ => ?_
    show (if x.1 = k then (x.1, x.2.1, r) else x).1 = x.1
    split <;> rfl
  · rw [List.map_append]; rfl
theorem ent_repl {xs : List Ent} {ys : List (NK × Addr × Value)} (p : Paired (fun (x : Ent) (y : NK × Addr × Value) => x.1 = y.1 ∧ x.2.1 = .ref y.2.1 ∧ RelV x.2.2 y.2.2) xs ys) (k : NK) (r : V) {z : Value} (rz : RelV r z) :
    Paired (fun (x : Ent) (y : NK × Addr × Value) => x.1 = y.1 ∧ x.2.1 = .ref y.2.1 ∧ RelV x.2.2 y.2.2) (xs.map (fun x => if x.1 = k then (x.1, x.2.1, r) else x)) (ys.map (putAt k z)) := by
  induction p with
  | nil => exact .nil
  | @cons x y _ _ h t ih =>
    rw [List.map_cons, List.map_cons]
    refine .cons ?_ ih
    unfold putAt
    by_cases e : x.1 = k
    · rw [if_pos e, if_pos (by rw [← h.1]; exact e)]; exact ⟨h.1, h.2.1, rz⟩
    · rw [if_neg e, if_neg (by rw [← h.1]; exact e)]; exact h
theorem ent_put {xs : List Ent} {ys : List (NK × Addr × Value)} (p : Paired (fun (x : Ent) (y : NK × Addr × Value) => x.1 = y.1 ∧ x.2.1 = .ref y.2.1 ∧ RelV x.2.2 y.2.2) xs ys) (k : NK) (b : Addr) (r : V) {z : Value} (rz : RelV r z) :
    Paired (fun (x : Ent) (y : NK × Addr × Value) => x.1 = y.1 ∧ x.2.1 = .ref y.2.1 ∧ RelV x.2.2 y.2.2) (entPut xs k (.ref b) r) (storedH ys k b z) := by
  have rel := (ent_val p k).isSome_eq
  rw [Option.isSome_map] at rel
  unfold entPut storedH
  rw [rel]
  split
  · exact ent_repl p k r rz
  · exact Paired.snoc p ⟨rfl, rfl, rz⟩
theorem entAt_mem {xs : List Ent} {k : NK} (h : (entAt xs k).isSome = false) : ¬ k ∈ xs.map (·.1) := fun m => by
  obtain ⟨x, hx, e⟩ := List.mem_map.mp m
  unfold entAt at h
  rw [Option.isSome_map, Bool.eq_false_iff] at h
  exact h (List.find?_isSome.mpr ⟨x, hx, by simp [e]⟩)
theorem entPut_nd {xs : List Ent} (k : NK) (v r : V) (h : (xs.map (·.1)).Nodup) : ((entPut xs k v r).map (·.1)).Nodup := by
  rw [entPut_keys]
  cases e : (entAt xs k).isSome with
  | true => exact h
  | false =>
    simp only [Bool.false_eq_true, if_false]
    rw [List.nodup_append]
    refine ⟨h, by simp, fun x hx y hy => ?_⟩
    rw [List.mem_singleton.mp hy]
    intro z; subst z; exact entAt_mem e hx
theorem entPut_len (xs : List Ent) (k : NK) (v r : V) : (entPut xs k v r).length ≤ xs.length + 1 := by
  unfold entPut; split
  · rw [List.length_map]; exact Nat.le_succ _
  · rw [List.length_append]; exact Nat.le_refl _
theorem entPut_mem {xs : List Ent} {k : NK} {v r : V} {P : Ent → Prop} (h : ∀ x ∈ xs, P x) (f : ∀ x, P x → P (x.1, x.2.1, r)) (g : P (k, v, r)) : ∀ x ∈ entPut xs k v r, P x := by
  unfold entPut; split
  · intro x hx
    obtain ⟨y, hy, rfl⟩ := List.mem_map.mp hx
    show P (if y.1 = k then (y.1, y.2.1, r) else y)
    split
    · exact f y (h y hy)
    · exact h y hy
  · intro x hx
    rcases List.mem_append.mp hx with hx | hx
    · exact h x hx
    · rw [List.mem_singleton.mp hx]; exact g
theorem dphi_pair {w : World} {xs : List Ent} {ys : List (NK × Addr × Value)} (p : Paired (fun (x : Ent) (y : NK × Addr × Value) => x.1 = y.1 ∧ x.2.1 = .ref y.2.1 ∧ RelV x.2.2 y.2.2) xs ys) : Paired (entOk X.w) xs (ys.map (entryOfKey (nkd X))) := by
  induction p with
  | nil => exact .nil
  | @cons x y _ _ q _ ih => exact .cons ⟨by rw [q.1]; rfl, by rw [q.2.1]; rfl, q.2.2⟩ ih
/-- the object behind a change of the dict's own object -/
theorem dphi_of {xs : List Ent} {ys : List (NK × Addr × Value)} {h' : Heap} (dh : h'.DictOfH (nkd X) a ys) (p : Paired (fun (x : Ent) (y : NK × Addr × Value) => x.1 = y.1 ∧ x.2.1 = .ref y.2.1 ∧ RelV x.2.2 y.2.2) xs ys) : dphi X.w a xs h' := by
  obtain ⟨o, es, ep, e, c, d, ee, _, _⟩ := dh
  exact ⟨o, es, ep, e, c, d, by rw [ee]; exact dphi_pair (w := X.w) p⟩
theorem n_write {xs' : List Ent} {ys : List (NK × Addr × Value)} {h' : Heap} {t' : Nat} (I : Inv X pins σ H s) (D : NDict X H a xs) (dh : h'.DictOfH (nkd X) a ys) (hs : Heap.SameBut a s.heap h')
    (p : Paired (fun (x : Ent) (y : NK × Addr × Value) => x.1 = y.1 ∧ x.2.1 = .ref y.2.1 ∧ RelV x.2.2 y.2.2) xs' ys) : Inv X pins σ (upd H a (dobj X.w a xs')) { s with heap := h', toks := t' } := by
  have ph := dphi_of dh p
  refine d_write I (by rw [D.at_]; exact True.intro) hs ?_ (dobj_ok ph)
  obtain ⟨o, _, _, e, _⟩ := ph
  exact ⟨o, e⟩
theorem n_setItem {Q : Unit → Shared → Prop} {r : V} {z : Value} (hu : X.A.units + 64 < cLine) (I : Inv X pins σ H s) (D : NDict X H a xs) (q : NKey X H k v) (rv : RelV v u) (rz : RelV r z) (h : ∀ s', Inv X pins σ (upd H a (dobj X.w a (entPut xs k v r))) s' → Q () s') :
    wpAny (model X.prog X.w) X.A (setItem (.ref a) u z) Q E s := by
  obtain ⟨ys, dh, p⟩ := D.heap I
  obtain ⟨b, rfl, rfl, ki⟩ := q.heap I rv
  exact wpAny_setItem_heap (hsz := by rw [← p.length]; exact D.len) (nroom hu) ki dh fun h' dh' hs => h _ (n_write I D dh' hs (ent_put p k b r rz))
theorem n_get {Q : Value → Shared → Prop} {r : V} {z : Value} (hu : X.A.units + 64 < cLine) (I : Inv X pins σ H s) (D : NDict X H a xs) (q : NKey X H k v) (rv : RelV v u) (rz : RelV r z) (h : ∀ w' s', Inv X pins σ H s' → RelV ((entAt xs k).getD r) w' → Q w' s') :
    wpAny (model X.prog X.w) X.A (call (.builtin "dict.get") [.ref a, u, z]) Q E s := by
  obtain ⟨ys, dh, p⟩ := D.heap I
  obtain ⟨b, rfl, rfl, ki⟩ := q.heap I rv
  refine getOr_keyed (nroom hu) ki D.low ⟨ys, dh, rfl⟩ (h _ _ (I.tok _) ?_)
  rw [valueAt_pairsH]
  exact (ent_val p k).getD rz
theorem n_get1 {Q : Value → Shared → Prop} (hu : X.A.units + 64 < cLine) (I : Inv X pins σ H s) (D : NDict X H a xs) (q : NKey X H k v) (rv : RelV v u) (h : ∀ w' s', Inv X pins σ H s' → RelV ((entAt xs k).getD .non) w' → Q w' s') :
    wpAny (model X.prog X.w) X.A (call (.builtin "dict.get") [.ref a, u]) Q E s := by
  obtain ⟨ys, dh, p⟩ := D.heap I
  obtain ⟨b, rfl, rfl, ki⟩ := q.heap I rv
  refine get_keyed (nroom hu) ki D.low ⟨ys, dh, rfl⟩ (h _ _ (I.tok _) ?_)
  rw [valueAt_pairsH]
  exact (ent_val p k).getD (d := V.non) (d' := Value.none) rfl
theorem n_len {Q : Value → Shared → Prop} (I : Inv X pins σ H s) (D : NDict X H a xs) (h : ∀ s' t, Inv X pins σ H s' → Q (.int xs.length t) s') :
    wpAny (model X.prog X.w) X.A (call (.builtin "dict.__len__") [.ref a]) Q E s := by
  obtain ⟨ys, dh, p⟩ := D.heap I
  refine len_keyed D.low ⟨ys, dh, rfl⟩ ?_
  rw [pairsH_length, ← p.length]
  exact h _ _ (I.tok _)
/-- the empty dict is of both kinds -/
theorem empty_n (I : Inv X pins σ H s) (e : H a = some (.dK [])) : Inv X pins σ (upd H a (dobj X.w a [])) s := by
  obtain ⟨z, hd, vs, rel, o, es, ep, h1, h2, h3, _, h5, _⟩ := dk_of I.hok e
  cases rel
  have e0 : es.toList = [] := by cases q : es.toList with | nil => rfl | cons x xs => rw [q] at h5; cases h5
  exact d_write (h' := s.heap) (t' := s.toks) I (by rw [e]; exact True.intro) ⟨rfl, fun _ _ => rfl⟩ ⟨o, h1⟩ (dobj_ok ⟨o, es, ep, h1, h2, h3, by rw [e0]; exact .nil⟩)
theorem empty_k (I : Inv X pins σ H s) (e : H a = some (dobj X.w a [])) (low : (a == sysModules) = false) : Inv X pins σ (upd H a (.dK [])) s := by
  obtain ⟨⟨o, es, ep, h1, h2, h3, p⟩, _⟩ := (show ObjOk X.prog X.w H s.heap a (dobj X.w a []) from I.hok a _ e)
  have e0 : es = #[] := by
    cases q : es.toList with
    | nil => exact Array.toList_eq_nil_iff.mp q
    | cons x xs => rw [q] at p; cases p
  subst e0
  exact d_write (h' := s.heap) (t' := s.toks) I (by rw [e]; exact True.intro) ⟨rfl, fun _ _ => rfl⟩ ⟨o, h1⟩ (dk_new (Nat.zero_le _) low .nil ⟨o, #[], ep, h1, h2, h3, by intro e he; simp at he, by exact .nil, by simp⟩)
end
end DL
namespace DL
open PySem PySem.Spec PyProof.Rows L2
/-! ### data -/
/-- the written part, and the world (of the texts' hashes) -/
structure KW where
  F : PySem.W.Frag
  w : World
  m : Str → Option Value
abbrev _root_.L2.Cx.kw (X : L2.Cx) : KW := ⟨X.K, X.w, X.mg⟩
inductive D where
  | none | bool (b : Bool) | int (i : Int) | str (x : Str) | tup (xs : List D) | rol (xs : List D) | ref (a : Addr) | ty (n : String)
deriving Inhabited
/-- a list that nobody writes: locked, or of the written part -/
def ROL (K : KW) (H : Hp) (a : Addr) (xs : List V) : Prop :=
  (∃ o, H a = some (.frz o (.lst xs))) ∨
    ∃ (o : Obj) (its : Array Value) (n : Nat), K.F.lookup a = some o ∧ o.cls = .type "list" ∧ o.dict = none ∧ o.data = .seq its n ∧ its.size ≤ sizeLine ∧ Vals xs its.toList
theorem ROL.sq {K : KW} {H : Hp} {a : Addr} {xs : List V} (h : ROL K H a xs) : SqL K.F H a xs := by
  rcases h with ⟨o, h⟩ | h
  · exact .inl (.inr ⟨o, h⟩)
  · exact .inr h
/-- a text that the rules take -/
def okS (x : Str) : Prop := x.length ≤ sizeLine ∧ PyData.strOk x = true
mutual
def RepV (K : KW) (H : Hp) : D → V → Prop
  | .none, v => v = .non
  | .bool b, v => v = .bl b
  | .int i, v => v = .int i
  | .str x, v => v = .str x ∧ okS x
  | .ref a, v => v = .ref a
  | .ty n, v => v = .ty n
  | .tup ds, v => ∃ a vs, v = .ref a ∧ SqT K.F H a vs ∧ RepVs K H ds vs
  | .rol ds, v => ∃ a vs, v = .ref a ∧ ROL K H a vs ∧ RepVs K H ds vs
def RepVs (K : KW) (H : Hp) : List D → List V → Prop
  | [], vs => vs = []
  | d :: ds, vs => ∃ v r, vs = v :: r ∧ RepV K H d v ∧ RepVs K H ds r
end
/-- what stands for good stands -/
structure Mo (K : KW) (H H' : Hp) : Prop where
  t : ∀ a xs, SqT K.F H a xs → SqT K.F H' a xs
  l : ∀ a xs, ROL K H a xs → ROL K H' a xs
theorem Mo.refl {K : KW} {H : Hp} : Mo K H H := ⟨fun _ _ h => h, fun _ _ h => h⟩
theorem Mo.trans {K : KW} {H H1 H2 : Hp} (a : Mo K H H1) (b : Mo K H1 H2) : Mo K H H2 := ⟨fun c xs h => b.t c xs (a.t c xs h), fun c xs h => b.l c xs (a.l c xs h)⟩
mutual
theorem RepV.mono {K : KW} {H H' : Hp} (m : Mo K H H') : ∀ (d : D) {v : V}, RepV K H d v → RepV K H' d v
  | .none, _, h => h
  | .bool _, _, h => h
  | .int _, _, h => h
  | .str _, _, h => h
  | .ref _, _, h => h
  | .ty _, _, h => h
  | .tup ds, _, h => by
    obtain ⟨a, vs, e, s, r⟩ := h
    exact ⟨a, vs, e, m.t _ _ s, RepVs.mono m ds r⟩
  | .rol ds, _, h => by
    obtain ⟨a, vs, e, s, r⟩ := h
    exact ⟨a, vs, e, m.l _ _ s, RepVs.mono m ds r⟩
theorem RepVs.mono {K : KW} {H H' : Hp} (m : Mo K H H') : ∀ (ds : List D) {vs : List V}, RepVs K H ds vs → RepVs K H' ds vs
  | [], _, h => h
  | d :: ds, _, h => by
    obtain ⟨v, r, e, h1, h2⟩ := h
    exact ⟨v, r, e, RepV.mono m d h1, RepVs.mono m ds h2⟩
end
section
variable {K : KW} {H : Hp}
theorem RepVs.pair : ∀ {ds : List D} {vs : List V}, RepVs K H ds vs → Paired (RepV K H) ds vs
  | [], _, h => by cases (show _ = [] from h); exact .nil
  | d :: ds, _, h => by
    obtain ⟨v, r, rfl, h1, h2⟩ := h
    exact .cons h1 (RepVs.pair h2)
theorem RepVs.of : ∀ {ds : List D} {vs : List V}, Paired (RepV K H) ds vs → RepVs K H ds vs
  | _, _, .nil => rfl
  | _, _, .cons h t => ⟨_, _, rfl, h, RepVs.of t⟩
theorem RepVs.length {ds : List D} {vs : List V} (h : RepVs K H ds vs) : ds.length = vs.length := h.pair.length
theorem RepVs.cons {d : D} {ds : List D} {v : V} {vs : List V} (h : RepV K H d v) (t : RepVs K H ds vs) : RepVs K H (d :: ds) (v :: vs) := ⟨v, vs, rfl, h, t⟩
theorem RepVs.nil : RepVs K H [] [] := rfl
end
section
variable {α β : Type} {R : α → β → Prop}
theorem P2.get : ∀ {xs : List α} {ys : List β} {i : Nat} {x : α}, Paired R xs ys → xs[i]? = some x → ∃ y, ys[i]? = some y ∧ R x y
  | _, _, _, _, .nil, e => by simp at e
  | _, _, 0, _, .cons r _, e => by simp at e; subst e; exact ⟨_, rfl, r⟩
  | _, _, i + 1, x, .cons _ t, e => by
    obtain ⟨u, h1, h2⟩ := P2.get (i := i) (x := x) t (by simpa using e)
    exact ⟨u, by simpa using h1, h2⟩
theorem P2.get' : ∀ {xs : List α} {ys : List β} {i : Nat} {y : β}, Paired R xs ys → ys[i]? = some y → ∃ x, xs[i]? = some x ∧ R x y
  | _, _, _, _, .nil, e => by simp at e
  | _, _, 0, _, .cons r _, e => by simp at e; subst e; exact ⟨_, rfl, r⟩
  | _, _, i + 1, x, .cons _ t, e => by
    obtain ⟨u, h1, h2⟩ := P2.get' (i := i) (y := x) t (by simpa using e)
    exact ⟨u, by simpa using h1, h2⟩
theorem P2.set {x : α} {u : β} (r : R x u) : ∀ {xs : List α} {us : List β} (i : Nat), Paired R xs us → Paired R (xs.set i x) (us.set i u)
  | _, _, _, .nil => .nil
  | _, _, 0, .cons _ t => .cons r t
  | _, _, i + 1, .cons q t => .cons q (P2.set r i t)
theorem P2.append : ∀ {xs ys : List α} {us ws : List β}, Paired R xs us → Paired R ys ws → Paired R (xs ++ ys) (us ++ ws)
  | _, _, _, _, .nil, s => s
  | _, _, _, _, .cons r t, s => .cons r (P2.append t s)
theorem P2.take : ∀ {xs : List α} {us : List β} (n : Nat), Paired R xs us → Paired R (xs.take n) (us.take n)
  | _, _, 0, _ => .nil
  | _, _, _ + 1, .nil => .nil
  | _, _, n + 1, .cons r t => .cons r (P2.take n t)
theorem P2.drop : ∀ {xs : List α} {us : List β} (n : Nat), Paired R xs us → Paired R (xs.drop n) (us.drop n)
  | _, _, 0, r => r
  | _, _, _ + 1, .nil => .nil
  | _, _, n + 1, .cons _ t => P2.drop n t
theorem P2.reverse {xs : List α} {us : List β} (h : Paired R xs us) : Paired R xs.reverse us.reverse := by
  induction h with
  | nil => exact .nil
  | cons r _ ih => rw [List.reverse_cons, List.reverse_cons]; exact P2.append ih (.cons r .nil)
theorem P2.eraseIdx : ∀ {xs : List α} {us : List β} (n : Nat), Paired R xs us → Paired R (xs.eraseIdx n) (us.eraseIdx n)
  | _, _, _, .nil => .nil
  | _, _, 0, .cons _ t => t
  | _, _, n + 1, .cons r t => .cons r (P2.eraseIdx n t)
theorem P2.dropLast {xs : List α} {us : List β} (h : Paired R xs us) : Paired R xs.dropLast us.dropLast := by
  rw [List.dropLast_eq_take, List.dropLast_eq_take, h.length]; exact P2.take _ h
theorem P2.mono {S : α → β → Prop} (f : ∀ a b, R a b → S a b) : ∀ {xs : List α} {us : List β}, Paired R xs us → Paired S xs us
  | _, _, .nil => .nil
  | _, _, .cons r t => .cons (f _ _ r) (P2.mono f t)
end
/-! ### keys -/
mutual
/-- the key that a value is -/
def nk : D → Option NK
  | .none => some .none
  | .bool b => some (.num (if b = true then 1 else 0))
  | .int i => some (.num i)
  | .str x => some (.text x)
  | .tup ds => (nks ds).map .tup
  | .rol _ => none
  | .ref _ => none
  | .ty _ => none
def nks : List D → Option (List NK)
  | [] => some []
  | d :: ds => match nk d, nks ds with
    | some k, some ks => some (k :: ks)
    | _, _ => none
end
mutual
theorem nk_kis {K : KW} {H : Hp} : ∀ (d : D) {v : V} {k : NK}, RepV K H d v → nk d = some k → KIs K.F H k v
  | .none, _, _, r, e => by cases e; exact r
  | .bool b, _, _, r, e => by cases e; exact .inr ⟨b, r, rfl⟩
  | .int i, _, _, r, e => by cases e; exact .inl r
  | .str x, _, _, r, e => by cases e; exact r.1
  | .rol _, _, _, _, e => by cases e
  | .ref _, _, _, _, e => by cases e
  | .ty _, _, _, _, e => by cases e
  | .tup ds, _, _, r, e => by
    obtain ⟨a, vs, ev, st, rs⟩ := r
    unfold nk at e
    obtain ⟨ks, ek, rfl⟩ := Option.map_eq_some_iff.mp e
    exact ⟨a, vs, ev, st, nks_kall ds rs ek⟩
theorem nks_kall {K : KW} {H : Hp} : ∀ (ds : List D) {vs : List V} {ks : List NK}, RepVs K H ds vs → nks ds = some ks → KAll K.F H ks vs
  | [], _, _, r, e => by cases e; exact r
  | d :: ds, _, _, r, e => by
    obtain ⟨v, w, ev, r1, r2⟩ := r
    unfold nks at e
    cases e1 : nk d with
    | none => rw [e1] at e; cases e
    | some k =>
      cases e2 : nks ds with
      | none => rw [e1, e2] at e; cases e
      | some ks =>
        rw [e1, e2] at e; cases e
        exact ⟨v, w, ev, nk_kis d r1 e1, nks_kall ds r2 e2⟩
end
/-- a number or a text -/
def scaK : D → Option L2.Key
  | .int i => some (.inl i)
  | .str x => some (.inr x)
  | _ => none
theorem sca_rep {K : KW} {H : Hp} {d : D} {v : V} {k : L2.Key} (r : RepV K H d v) (e : scaK d = some k) : v = kV k := by
  cases d <;> first | (cases e; done) | skip
  case int i => cases e; exact r
  case str x => cases e; exact r.1
def tupK (d : D) : Bool := match d with
  | .tup _ => match nk d with
    | some k => decide (k.depth ≤ 8)
    | none => false
  | _ => false
theorem tupK_some {d : D} (h : tupK d = true) : ∃ ks, nk d = some (.tup ks) ∧ (NestedKey.tup ks).depth ≤ 8 := by
  cases d with
  | tup ds =>
    unfold tupK at h
    cases e : nk (.tup ds) with
    | none => rw [e] at h; cases h
    | some k =>
      rw [e] at h
      have e2 := e
      unfold nk at e2
      obtain ⟨ks, _, rfl⟩ := Option.map_eq_some_iff.mp e2
      exact ⟨ks, rfl, of_decide_eq_true h⟩
  | _ => cases h
/-! ### the data-level heap -/
abbrev Kvs := List (D × D)
inductive MO where
  | lst (xs : List D)
  | dic (kvs : Kvs)
  | ins (n : Str) (fs : List (Str × D))
abbrev MH := Addr → Option MO
def up (h : MH) (a : Addr) (o : MO) : MH := fun b => if b = a then some o else h b
theorem up_same {h : MH} {a : Addr} {o : MO} : up h a o a = some o := by unfold up; rw [if_pos rfl]
theorem up_ne {h : MH} {a b : Addr} {o : MO} (n : b ≠ a) : up h a o b = h b := by unfold up; rw [if_neg n]
theorem up_up {h : MH} {a : Addr} {o u : MO} : up (up h a o) a u = up h a u := by
  funext b; unfold up; split <;> rfl
def le (h h' : MH) : Prop := ∀ a o, h a = some o → h' a = some o
theorem le.refl {h : MH} : le h h := fun _ _ e => e
theorem le.trans {h h1 h2 : MH} (a : le h h1) (b : le h1 h2) : le h h2 := fun c o e => b c o (a c o e)
theorem le.up {h : MH} {a : Addr} {o : MO} (n : h a = none) : le h (up h a o) := fun b u e => by
  rw [up_ne (fun z => by rw [z, n] at e; cases e)]; exact e
theorem le.up2 {h h' : MH} {a : Addr} {o : MO} (l : le h h') : le (DL.up h a o) (DL.up h' a o) := fun b u e => by
  unfold DL.up at e ⊢; split at e
  · rename_i z; rw [if_pos z]; exact e
  · rename_i z; rw [if_neg z]; exact l b u e
/-- pairs -/
def RepKs (K : KW) (H : Hp) (kvs : Kvs) (kv : List (L2.Key × V)) : Prop := Paired (fun (p : D × D) (q : L2.Key × V) => scaK p.1 = some q.1 ∧ RepV K H p.1 (kV q.1) ∧ RepV K H p.2 q.2) kvs kv
def RepNs (K : KW) (H : Hp) (kvs : Kvs) (xs : List Ent) : Prop := Paired (fun (p : D × D) (x : Ent) => nk p.1 = some x.1 ∧ RepV K H p.1 x.2.1 ∧ RepV K H p.2 x.2.2) kvs xs
def RepFs (K : KW) (H : Hp) (fs : List (Str × D)) (vs : List (Str × V)) : Prop := Paired (fun (p : Str × D) (q : Str × V) => p.1 = q.1 ∧ RepV K H p.2 q.2) fs vs
/-- a dict with tuples as keys -/
structure RepN (K : KW) (H : Hp) (a : Addr) (kvs : Kvs) (xs : List Ent) : Prop where
  at_ : H a = some (dobj K.w a xs)
  rep : RepNs K H kvs xs
  tup : ∀ p ∈ kvs, tupK p.1 = true
  nd : (xs.map (·.1)).Nodup
  len : kvs.length ≤ sizeLine
  low : (a == sysModules) = false
/-- what stands at an address -/
def RepO (K : KW) (H : Hp) (a : Addr) : MO → Prop
  | .lst ds => ∃ vs, H a = some (.lst vs) ∧ RepVs K H ds vs
  | .dic kvs => (∃ kv, H a = some (.dK kv) ∧ RepKs K H kvs kv) ∨ ∃ xs, RepN K H a kvs xs
  | .ins n fs => ∃ C dx vs, K.m n = some (.ref C) ∧ H a = some (.ins C dx vs) ∧ RepFs K H fs vs
/-- hidden from the data level -/
def hid : HO → Bool
  | .lst _ => false
  | .dK _ => false
  | .ext _ => false
  | .ins _ _ _ => false
  | _ => true
def RepH (K : KW) (h : MH) (H : Hp) : Prop := ∀ a o, h a = some o → RepO K H a o
/-- hidden things stand -/
def Stp (h : MH) (H : Hp) (h' : MH) (H' : Hp) : Prop := ∀ a o, h a = none → H a = some o → h' a = none ∧ H' a = some o
section
variable {K : KW} {h h' h1 h2 h0 : MH} {H H' H1 H2 : Hp} {a l : Addr} {d : D} {ds : List D} {v : V} {vs : List V} {o0 : MO}
theorem RepH.low (r : RepH K h H) (w : le h0 h) : RepH K h0 H := fun a o e => r a o (w a o e)
theorem Stp.refl : Stp h H h H := fun _ _ a b => ⟨a, b⟩
theorem Stp.trans (a : Stp h H h1 H1) (b : Stp h1 H1 h2 H2) : Stp h H h2 H2 := fun c o e f => let ⟨x, y⟩ := a c o e f; b c o x y
theorem Stp.low (a : Stp h H h1 H1) (w : le h0 h1) : Stp h H h0 H1 := fun c o e f => by
  obtain ⟨x, y⟩ := a c o e f
  refine ⟨?_, y⟩
  cases q : h0 c with
  | none => rfl
  | some u => rw [w c u q] at x; cases x
theorem RepO.hid (x : RepO K H a o0) : ∃ o, H a = some o ∧ hid o = false := by
  cases o0 with
  | lst ds => obtain ⟨vs, e, _⟩ := x; exact ⟨_, e, rfl⟩
  | dic kvs =>
    rcases x with ⟨kv, e, _⟩ | ⟨xs, r⟩
    · exact ⟨_, e, rfl⟩
    · exact ⟨_, r.at_, rfl⟩
  | ins n fs => obtain ⟨C, dx, vs, _, e, _⟩ := x; exact ⟨_, e, rfl⟩
theorem RepH.hid (r : RepH K h H) {o : HO} (e : H a = some o) (n : DL.hid o = true) : h a = none := by
  cases q : h a with
  | none => rfl
  | some u =>
    obtain ⟨o2, e2, z⟩ := (r a _ q).hid
    rw [e] at e2; cases e2
    rw [n] at z; cases z
theorem Stp.mo (r : RepH K h H) (s : Stp h H h' H') : Mo K H H' := by
  refine ⟨fun a xs q => ?_, fun a xs q => ?_⟩
  · rcases q with (q | ⟨o, q⟩) | q
    · exact .inl (.inl (s a _ (r.hid q rfl) q).2)
    · exact .inl (.inr ⟨o, (s a _ (r.hid q rfl) q).2⟩)
    · exact .inr q
  · rcases q with ⟨o, q⟩ | q
    · exact .inl ⟨o, (s a _ (r.hid q rfl) q).2⟩
    · exact .inr q
theorem RepO.mono (m : Mo K H H') {o : MO} (q : ∀ u, H a = some u → H' a = some u) (x : RepO K H a o) : RepO K H' a o := by
  cases o with
  | lst ds =>
    obtain ⟨vs, e, r⟩ := x
    exact ⟨vs, q _ e, RepVs.mono m _ r⟩
  | dic kvs =>
    rcases x with ⟨kv, e, r⟩ | ⟨xs, r⟩
    · exact .inl ⟨kv, q _ e, P2.mono (fun _ _ z => ⟨z.1, RepV.mono m _ z.2.1, RepV.mono m _ z.2.2⟩) r⟩
    · exact .inr ⟨xs, ⟨q _ r.at_, P2.mono (fun _ _ z => ⟨z.1, RepV.mono m _ z.2.1, RepV.mono m _ z.2.2⟩) r.rep, r.tup, r.nd, r.len, r.low⟩⟩
  | ins n fs =>
    obtain ⟨C, dx, vs, em, e, r⟩ := x
    exact ⟨C, dx, vs, em, q _ e, P2.mono (fun _ _ z => ⟨z.1, RepV.mono m _ z.2⟩) r⟩
theorem RepH.nofresh (r : RepH K h H) (n : H l = none) : h l = none := by
  cases q : h l with
  | none => rfl
  | some u =>
    obtain ⟨o2, e2, _⟩ := (r l _ q).hid
    rw [n] at e2; cases e2
/-- something hidden is laid -/
theorem Stp.hide {o : HO} (n : H l = none) : Stp h H h (upd H l o) := fun a u e f => ⟨e, by rw [upd_ne (ne_of_none f n)]; exact f⟩
theorem RepH.hide (r : RepH K h H) {o : HO} (n : H l = none) : RepH K h (upd H l o) := fun a u e =>
  (r a u e).mono (Stp.mo r (Stp.hide n)) fun x f => by rw [upd_ne (ne_of_none f n)]; exact f
/-- a thing is laid -/
theorem Stp.new {o : HO} {u : MO} (n : H l = none) : Stp h H (up h l u) (upd H l o) := fun a x e f =>
  ⟨by rw [up_ne (ne_of_none f n)]; exact e, by rw [upd_ne (ne_of_none f n)]; exact f⟩
theorem RepH.newO (r : RepH K h H) (n : H l = none) {o : HO} {u : MO} (x : RepO K (upd H l o) l u) : RepH K (up h l u) (upd H l o) := fun a w e => by
  have m := Stp.mo r (Stp.hide (o := o) n)
  by_cases q : a = l
  · subst q
    rw [up_same] at e; cases e
    exact x
  · rw [up_ne q] at e
    exact (r a w e).mono m fun x f => by rw [upd_ne q]; exact f
theorem RepH.new (r : RepH K h H) (n : H l = none) (rv : RepVs K H ds vs) : RepH K (up h l (.lst ds)) (upd H l (.lst vs)) :=
  r.newO n ⟨vs, upd_same, RepVs.mono (Stp.mo r (Stp.hide (o := .lst vs) n)) _ rv⟩
/-- a thing is written -/
theorem Stp.write {o : HO} {u x : MO} (e0 : h a = some x) : Stp h H (up h a u) (upd H a o) := fun b y e f => by
  have n : b ≠ a := fun z => by rw [z, e0] at e; cases e
  exact ⟨by rw [up_ne n]; exact e, by rw [upd_ne n]; exact f⟩
theorem RepH.writeO (r : RepH K h H) (e0 : h a = some o0) {o : HO} {u : MO} (x : RepO K (upd H a o) a u) : RepH K (up h a u) (upd H a o) := fun b w e => by
  have m := Stp.mo r (Stp.write (o := o) (u := u) e0)
  by_cases q : b = a
  · subst q
    rw [up_same] at e; cases e
    exact x
  · rw [up_ne q] at e
    exact (r b w e).mono m fun x f => by rw [upd_ne q]; exact f
theorem RepH.write (r : RepH K h H) {ds0 : List D} (e0 : h a = some (.lst ds0)) (rv : RepVs K H ds vs) : RepH K (up h a (.lst ds)) (upd H a (.lst vs)) :=
  r.writeO e0 ⟨vs, upd_same, RepVs.mono (Stp.mo r (Stp.write (o := .lst vs) (u := .lst ds) e0)) _ rv⟩
end
/-! ### the frame -/
abbrev Sl := List (Option D)
def nth : Sl → Nat → Option D
  | [], _ => none
  | x :: _, 0 => x
  | _ :: r, n + 1 => nth r n
def put : Sl → Nat → Option D → Sl
  | [], _, _ => []
  | _ :: r, 0, d => d :: r
  | x :: r, n + 1, d => x :: put r n d
theorem put_len : ∀ (σ : Sl) (i : Nat) (d : Option D), (put σ i d).length = σ.length
  | [], _, _ => rfl
  | _ :: _, 0, _ => rfl
  | _ :: r, n + 1, d => by show (put r n d).length + 1 = r.length + 1; rw [put_len r n d]
theorem nth_put : ∀ (σ : Sl) (i j : Nat) (d : Option D) {e : D}, nth (put σ i d) j = some e → (j = i ∧ d = some e) ∨ (j ≠ i ∧ nth σ j = some e)
  | [], _, _, _, _, h => by cases h
  | x :: r, 0, 0, d, e, h => .inl ⟨rfl, h⟩
  | x :: r, 0, j + 1, d, e, h => .inr ⟨by omega, h⟩
  | x :: r, n + 1, 0, d, e, h => .inr ⟨by omega, h⟩
  | x :: r, n + 1, j + 1, d, e, h => by
    rcases nth_put r n j d h with ⟨a, b⟩ | ⟨a, b⟩
    · exact .inl ⟨by omega, b⟩
    · exact .inr ⟨by omega, b⟩
theorem nth_lt : ∀ (σ : Sl) (i : Nat) {e : D}, nth σ i = some e → i < σ.length
  | [], _, _, h => by cases h
  | _ :: _, 0, _, _ => Nat.zero_lt_succ _
  | _ :: r, n + 1, _, h => Nat.succ_lt_succ (nth_lt r n h)
structure RepE (K : KW) (H : Hp) (σ : Sl) (σV : L2.St) : Prop where
  len : σ.length = σV.length
  val : ∀ i d, nth σ i = some d → ∃ v, σV[i]? = some (some v) ∧ RepV K H d v
section
variable {K : KW} {H H' : Hp} {σ τ : Sl} {σV : L2.St}
theorem RepE.mono (m : Mo K H H') (r : RepE K H σ σV) : RepE K H' σ σV := ⟨r.len, fun i d e => let ⟨v, a, b⟩ := r.val i d e; ⟨v, a, RepV.mono m _ b⟩⟩
theorem RepE.put {i : Nat} {d : D} {v : V} (r : RepE K H σ σV) (rv : RepV K H d v) : RepE K H (put σ i (some d)) (σV.set i (some v)) := by
  refine ⟨by rw [put_len, List.length_set]; exact r.len, fun j e h => ?_⟩
  have hl := nth_lt _ _ h
  rw [put_len, r.len] at hl
  rcases nth_put σ i j _ h with ⟨rfl, q⟩ | ⟨n, q⟩
  · cases q
    exact ⟨v, by rw [List.getElem?_set_self hl], rv⟩
  · obtain ⟨w, a, b⟩ := r.val j e q
    exact ⟨w, by rw [List.getElem?_set_ne (Ne.symm n)]; exact a, b⟩
/-- slots forgotten -/
def leS (τ σ : Sl) : Prop := τ.length = σ.length ∧ ∀ i d, nth τ i = some d → nth σ i = some d
theorem leS.refl : leS σ σ := ⟨rfl, fun _ _ h => h⟩
theorem leS.trans {ρ : Sl} (a : leS ρ τ) (b : leS τ σ) : leS ρ σ := ⟨a.1.trans b.1, fun i d h => b.2 i d (a.2 i d h)⟩
theorem leS.nil : leS [] [] := ⟨rfl, fun _ _ h => h⟩
theorem leS.cons {x : Option D} (a : leS τ σ) : leS (x :: τ) (x :: σ) := ⟨by simp [a.1], fun i d h => by
  cases i with
  | zero => exact h
  | succ n => exact a.2 n d h⟩
theorem leS.skip {x : Option D} (a : leS τ σ) : leS (none :: τ) (x :: σ) := ⟨by simp [a.1], fun i d h => by
  cases i with
  | zero => cases h
  | succ n => exact a.2 n d h⟩
theorem RepE.low (r : RepE K H σ σV) (w : leS τ σ) : RepE K H τ σV := ⟨w.1.trans r.len, fun i d h => r.val i d (w.2 i d h)⟩
end
/-! ### readings of the data level, lowered -/
abbrev KD := D → MH → Prop
abbrev E1 := Sl → MH → KD → Prop
abbrev T1 := Sl → MH → (Bool → MH → Prop) → Prop
abbrev A1 := Sl → MH → (List D → MH → Prop) → Prop
def Cl (K : KW) (h : MH) (H : Hp) (Q : KD) (QV : VK) : Prop := ∀ d h' v H', Stp h H h' H' → RepH K h' H' → RepV K H' d v → Q d h' → QV v H'
def ClB (K : KW) (h : MH) (H : Hp) (Q : Bool → MH → Prop) (QV : Bool → Hp → Prop) : Prop := ∀ b h' H', Stp h H h' H' → RepH K h' H' → Q b h' → QV b H'
def ClA (K : KW) (h : MH) (H : Hp) (Q : List D → MH → Prop) (QV : List V → Hp → Prop) : Prop := ∀ ds h' vs H', Stp h H h' H' → RepH K h' H' → RepVs K H' ds vs → Q ds h' → QV vs H'
def lowE (K : KW) (t : E1) : TE := fun σV H QV => ∃ σ h Q, RepE K H σ σV ∧ RepH K h H ∧ t σ h Q ∧ Cl K h H Q QV
def lowT (K : KW) (t : T1) : TT := fun σV H QV => ∃ σ h Q, RepE K H σ σV ∧ RepH K h H ∧ t σ h Q ∧ ClB K h H Q QV
def lowA (K : KW) (t : A1) : TA := fun σV H QV => ∃ σ h Q, RepE K H σ σV ∧ RepH K h H ∧ t σ h Q ∧ ClA K h H Q QV
theorem Cl.step {K : KW} {h h1 : MH} {H H1 : Hp} {Q : KD} {QV : VK} (s : Stp h H h1 H1) (c : Cl K h H Q QV) : Cl K h1 H1 Q QV := fun d h' v H' s' a b q => c d h' v H' (s.trans s') a b q
theorem ClB.step {K : KW} {h h1 : MH} {H H1 : Hp} {Q : Bool → MH → Prop} {QV : Bool → Hp → Prop} (s : Stp h H h1 H1) (c : ClB K h H Q QV) : ClB K h1 H1 Q QV := fun d h' H' s' a q => c d h' H' (s.trans s') a q
theorem ClA.step {K : KW} {h h1 : MH} {H H1 : Hp} {Q : List D → MH → Prop} {QV : List V → Hp → Prop} (s : Stp h H h1 H1) (c : ClA K h H Q QV) : ClA K h1 H1 Q QV := fun d h' v H' s' a b q => c d h' v H' (s.trans s') a b q
theorem weakE {X : Cx} {e : Expr} {t t' : TE} (p : PE X e t) (w : ∀ σ H Q, t' σ H Q → t σ H Q) : PE X e t' := ⟨fun pins s σ H Q I h => p.run pins s σ H Q I (w σ H Q h)⟩
theorem weakT {X : Cx} {e : Expr} {t t' : TT} (p : PT X e t) (w : ∀ σ H Q, t' σ H Q → t σ H Q) : PT X e t' := ⟨fun pins s σ H Q I h => p.run pins s σ H Q I (w σ H Q h)⟩
theorem weakA {X : Cx} {e : List Expr} {t t' : TA} (p : PA X e t) (w : ∀ σ H Q, t' σ H Q → t σ H Q) : PA X e t' := ⟨fun pos pins s σ H Q I h => p.run pos pins s σ H Q I (w σ H Q h)⟩
abbrev DE (X : Cx) (e : Expr) (t : E1) : Prop := PE X e (lowE X.kw t)
abbrev DT (X : Cx) (e : Expr) (t : T1) : Prop := PT X e (lowT X.kw t)
abbrev DA (X : Cx) (es : List Expr) (t : A1) : Prop := PA X es (lowA X.kw t)
section
variable {X : Cx}
/-! names, constants -/
def dVar (i : Nat) : E1 := fun σ h Q => match nth σ i with | some d => Q d h | none => False
def dC (d : D) : E1 := fun _ h Q => Q d h
theorem de_var (i : Nat) {x : Str} {pos : Pos} (hN : X.N[i]? = some x := by rfl) (hv : Vis X.env.scope x := by first | exact Or.inl rfl | exact Or.inr (Or.inl rfl) | exact Or.inr (Or.inr rfl)) (hd : (x == ("__debug__" : Str)) = false := by decide)
    (hcd : (x == ("__classdict__" : Str)) = false := by decide) : DE X (.Name x pos) (dVar i) := weakE (pe_var hN hv hd hcd) fun σV H QV ⟨σ, h, Q, hE, hH, ht, hc⟩ => by
  unfold dVar at ht
  cases e : nth σ i with
  | none => rw [e] at ht; exact ht.elim
  | some d =>
    rw [e] at ht
    obtain ⟨v, e2, r⟩ := hE.val i d e
    exact ⟨v, e2, hc d h v H Stp.refl hH r ht⟩
theorem de_c {e : Expr} {d : D} {v : V} (p : PE X e (tC v)) (r : ∀ H, RepV X.kw H d v) : DE X e (dC d) := weakE p fun σV H QV ⟨σ, h, Q, hE, hH, ht, hc⟩ => hc d h v H Stp.refl hH (r H) ht
theorem de_int {i j pos} : DE X (.Constant (.int i) j pos) (dC (.int i)) := de_c pe_int fun _ => rfl
theorem de_bl {i j pos} : DE X (.Constant (.bool i) j pos) (dC (.bool i)) := de_c pe_bl fun _ => rfl
theorem de_non {j pos} : DE X (.Constant .none j pos) (dC .none) := de_c pe_non fun _ => rfl
theorem de_str {x j pos} (ok : okS x := by exact ⟨by decide, by decide +kernel⟩) : DE X (.Constant (.str x) j pos) (dC (.str x)) := de_c pe_str fun _ => ⟨rfl, ok⟩
/-- a module's constant that is a number, a text .. -/
theorem de_globI {x : Str} {i : Int} {u : Value} {pos : Pos} (hg : Gl X x) (hm : X.mg x = some u) (r : RelV (.int i) u) (hd : (x == ("__debug__" : Str)) = false := by decide) : DE X (.Name x pos) (dC (.int i)) := de_c (pe_glob hg hm r hd) fun _ => rfl
theorem de_globS {x : Str} {i : Str} {u : Value} {pos : Pos} (hg : Gl X x) (hm : X.mg x = some u) (r : RelV (.str i) u) (ok : okS i := by exact ⟨by decide, by decide +kernel⟩) (hd : (x == ("__debug__" : Str)) = false := by decide) : DE X (.Name x pos) (dC (.str i)) := de_c (pe_glob hg hm r hd) fun _ => ⟨rfl, ok⟩
/-! two-place operations -/
abbrev R1 := D → D → MH → KD → Prop
def lowR (K : KW) (r : R1) : R2 := fun x y H QV => ∃ d e h Q, RepV K H d x ∧ RepV K H e y ∧ RepH K h H ∧ r d e h Q ∧ Cl K h H Q QV
def dOp (r : R1) (ta tb : E1) : E1 := fun σ h Q => ta σ h fun x h1 => tb σ h1 fun y h2 => r x y h2 Q
theorem low_op {K : KW} {r : R1} {ta tb : E1} {σV : L2.St} {H : Hp} {QV : VK} (h : lowE K (dOp r ta tb) σV H QV) : tOp (lowR K r) (lowE K ta) (lowE K tb) σV H QV := by
  obtain ⟨σ, h, Q, hE, hH, ht, hc⟩ := h
  refine ⟨σ, h, _, hE, hH, ht, fun x h1 v1 H1 s1 hH1 r1 q1 => ?_⟩
  refine ⟨σ, h1, _, hE.mono (Stp.mo hH s1), hH1, q1, fun y h2 v2 H2 s2 hH2 r2 q2 => ?_⟩
  exact ⟨x, y, h2, Q, RepV.mono (Stp.mo hH1 s2) _ r1, r2, hH2, q2, hc.step (s1.trans s2)⟩
theorem opR_of {f : Value → Value → Sem Value} {r' : R2} (h : ∀ x y H Q, r' x y H Q → ∃ r, OpR X f r ∧ r x y H Q) : OpR X f r' := fun pins s σ H x y v u Q I rx ry hr =>
  let ⟨r, ho, hq⟩ := h x y H Q hr
  ho pins s σ H x y v u Q I rx ry hq
theorem de_op {op : Operator} {r : R1} {a b : Expr} {ta tb : E1} {pos : Pos} (ho : OpR X (binaryOp op) (lowR X.kw r)) (ha : DE X a ta) (hb : DE X b tb) : DE X (.BinOp a op b pos) (dOp r ta tb) :=
  weakE (pe_op ho ha hb) fun _ _ _ h => low_op h
theorem de_cmpR {op : CmpOp} {r : R1} {a b : Expr} {ta tb : E1} {pos : Pos} (ho : OpR X (compareOp op) (lowR X.kw r)) (ha : DE X a ta) (hb : DE X b tb) (hm : behindInMarks op b = false) : DE X (.Compare a [op] [b] pos) (dOp r ta tb) :=
  weakE (pe_cmpR ho ha hb hm) fun _ _ _ h => low_op h
end
end DL
namespace DL
open PySem PySem.Spec PyProof.Rows L2
/-! ### texts -/
theorem okS.app {x y : Str} (a : okS x) (b : okS y) (h : x.length + y.length ≤ sizeLine) : okS (x ++ y) := by
  refine ⟨by rw [show (x ++ y).length = x.length + y.length from by show (x.cps ++ y.cps).size = _; rw [Array.size_append]; rfl]; exact h, ?_⟩
  have h1 := a.2
  have h2 := b.2
  unfold PyData.strOk at h1 h2 ⊢
  show (x.cps ++ y.cps).all _ = true
  rw [Array.all_append, h1, h2]; rfl
theorem okS.cut {x : Str} (a : okS x) (lo hi : Option Int) : okS (cutS x lo hi) := by
  refine ⟨Nat.le_trans (cutS_length _ _ _) a.1, ?_⟩
  have h1 := a.2
  unfold PyData.strOk at h1 ⊢
  unfold cutS
  rw [← Array.all_toList] at h1 ⊢
  rw [List.all_eq_true] at h1 ⊢
  intro c hc
  exact h1 c (List.mem_of_mem_drop (List.mem_of_mem_take hc))
theorem okS.one {x : Str} {i : Int} {c : Nat} (a : okS x) (h : atI x.cps.toList i = some c) : okS ⟨#[c]⟩ := by
  refine ⟨by show 1 ≤ sizeLine; decide, ?_⟩
  have h1 := a.2
  unfold PyData.strOk at h1 ⊢
  rw [← Array.all_toList] at h1 ⊢
  rw [List.all_eq_true] at h1 ⊢
  intro d hd
  have e : d = c := by simpa using hd
  subst e
  obtain ⟨j, _, hj, _⟩ := atI_get h
  exact h1 d (List.mem_of_getElem? hj)
/-! ### data as PyData -/
mutual
def pd : D → PyData
  | .none => .none
  | .bool b => .bool b
  | .int i => .int i
  | .str x => .str x
  | .tup ds => .tuple (pds ds)
  | .rol ds => .list (pds ds)
  | .ref _ => .none
  | .ty _ => .none
def pds : List D → List PyData
  | [] => []
  | d :: ds => pd d :: pds ds
end
mutual
/-- nothing that can change within; at most n deep -/
def pure? : Nat → D → Bool
  | _, .none => true
  | _, .bool _ => true
  | _, .int _ => true
  | _, .str _ => true
  | n + 1, .tup ds => pures? n ds
  | n + 1, .rol ds => pures? n ds
  | _, _ => false
def pures? : Nat → List D → Bool
  | _, [] => true
  | n, d :: ds => pure? n d && pures? n ds
end
theorem pures_all (n : Nat) : ∀ ds : List D, pures? n ds = ds.all (pure? n)
  | [] => by unfold pures?; rfl
  | d :: ds => by unfold pures?; rw [pures_all n ds]; rfl
mutual
theorem pd_depth : ∀ (n : Nat) (d : D), pure? n d = true → (pd d).depth ≤ n
  | n, .none, _ => by simp [pd, PyData.depth]
  | n, .bool _, _ => by simp [pd, PyData.depth]
  | n, .int _, _ => by simp [pd, PyData.depth]
  | n, .str _, _ => by simp [pd, PyData.depth]
  | 0, .tup ds, h => by simp [pure?] at h
  | n + 1, .tup ds, h => by
    have h' : pures? n ds = true := by simpa [pure?] using h
    have := pds_depth n ds h'
    simp only [pd, PyData.depth]; omega
  | 0, .rol ds, h => by simp [pure?] at h
  | n + 1, .rol ds, h => by
    have h' : pures? n ds = true := by simpa [pure?] using h
    have := pds_depth n ds h'
    simp only [pd, PyData.depth]; omega
  | n, .ref _, h => by simp [pure?] at h
  | n, .ty _, h => by simp [pure?] at h
theorem pds_depth : ∀ (n : Nat) (ds : List D), pures? n ds = true → PyData.depthAll (pds ds) ≤ n
  | n, [], _ => by simp [pds, PyData.depthAll]
  | n, d :: ds, h => by
    have h' : pure? n d = true ∧ pures? n ds = true := by simpa [pures?] using h
    have h1 := pd_depth n d h'.1
    have h2 := pds_depth n ds h'.2
    simp only [pds, PyData.depthAll]; omega
end
section
variable {K : KW} {H : Hp}
mutual
theorem pd_dp : ∀ (n : Nat) (d : D) (v : V), pure? n d = true → RepV K H d v → Dp K.F H v (pd d) ∧ (pd d).canLay0 = true
  | _, .none, v, _, r => by cases (show v = _ from r); exact ⟨.non, by simp [pd, PyData.canLay0]⟩
  | _, .bool b, v, _, r => by cases (show v = _ from r); exact ⟨.bl b, by simp [pd, PyData.canLay0]⟩
  | _, .int b, v, _, r => by cases (show v = _ from r); exact ⟨.int b, by simp [pd, PyData.canLay0]⟩
  | _, .str b, v, _, r => by
    obtain ⟨rfl, ok⟩ := (show v = _ ∧ okS b from r)
    exact ⟨.str b, by simp only [pd, PyData.canLay0]; exact ok.2⟩
  | 0, .tup ds, v, h, r => by simp [pure?] at h
  | n + 1, .tup ds, v, h, r => by
    have h' : pures? n ds = true := by simpa [pure?] using h
    obtain ⟨a, vs, rfl, s, q⟩ := r
    obtain ⟨x, y⟩ := pds_dp n ds vs h' q
    exact ⟨by simp only [pd]; exact .tup s x, by simp only [pd, PyData.canLay0]; exact y⟩
  | 0, .rol ds, v, h, r => by simp [pure?] at h
  | n + 1, .rol ds, v, h, r => by
    have h' : pures? n ds = true := by simpa [pure?] using h
    obtain ⟨a, vs, rfl, s, q⟩ := r
    obtain ⟨x, y⟩ := pds_dp n ds vs h' q
    exact ⟨by simp only [pd]; exact .lst s.sq x, by simp only [pd, PyData.canLay0]; exact y⟩
  | n, .ref _, v, h, r => by simp [pure?] at h
  | n, .ty _, v, h, r => by simp [pure?] at h
theorem pds_dp : ∀ (n : Nat) (ds : List D) (vs : List V), pures? n ds = true → RepVs K H ds vs → DpAll K.F H vs (pds ds) ∧ PyData.canLayAll0 (pds ds) = true
  | n, [], vs, _, r => by cases (show vs = [] from r); exact ⟨by simp only [pds]; exact .nil, by simp [pds, PyData.canLayAll0]⟩
  | n, d :: ds, vs, h, r => by
    have h' : pure? n d = true ∧ pures? n ds = true := by simpa [pures?] using h
    obtain ⟨v, rr, rfl, r1, r2⟩ := r
    obtain ⟨a, b⟩ := pd_dp n d v h'.1 r1
    obtain ⟨c, e⟩ := pds_dp n ds rr h'.2 r2
    exact ⟨by simp only [pds]; exact .cons a c, by simp only [pds, PyData.canLayAll0, b, e]; rfl⟩
end
/-- a list that stands in the heap, or data: as PyData -/
def viewL (ds : List D) : Option PyData := if pures? 60 ds = true then some (.list (pds ds)) else none
def viewP (d : D) : Option PyData := if pure? 60 d = true then some (pd d) else none
def viewO : Option MO → Option PyData
  | some (.lst ds) => viewL ds
  | _ => none
def view (h : MH) : D → Option PyData
  | .ref a => viewO (h a)
  | .none => viewP .none
  | .bool b => viewP (.bool b)
  | .int b => viewP (.int b)
  | .str b => viewP (.str b)
  | .tup b => viewP (.tup b)
  | .rol b => viewP (.rol b)
  | .ty _ => none
theorem viewP_dp {d : D} {v : V} {x : PyData} (r : RepV K H d v) (e : viewP d = some x) : Dp K.F H v x ∧ SeqAt.shaped x = true := by
  unfold viewP at e
  by_cases p : pure? 60 d = true
  · rw [if_pos p] at e
    cases e
    obtain ⟨a, b⟩ := pd_dp 60 d v p r
    refine ⟨a, ?_⟩
    unfold SeqAt.shaped
    rw [b, decide_eq_true (Nat.le_trans (pd_depth 60 d p) (by decide))]; rfl
  · rw [if_neg p] at e; cases e
theorem view_dp {h : MH} (hH : RepH K h H) : ∀ {d : D} {v : V} {x : PyData}, RepV K H d v → view h d = some x → Dp K.F H v x ∧ SeqAt.shaped x = true
  | .none, _, _, r, e => viewP_dp r e
  | .bool _, _, _, r, e => viewP_dp r e
  | .int _, _, _, r, e => viewP_dp r e
  | .str _, _, _, r, e => viewP_dp r e
  | .tup _, _, _, r, e => viewP_dp r e
  | .rol _, _, _, r, e => viewP_dp r e
  | .ty _, _, _, _, e => by cases e
  | .ref a, v, x, r, e => by
    have r' : v = .ref a := r
    subst r'
    have e : viewO (h a) = some x := e
    cases q : h a with
    | none => rw [q] at e; cases e
    | some o =>
      cases o with
      | lst ds =>
        rw [q] at e
        have e : viewL ds = some x := e
        unfold viewL at e
        by_cases p : pures? 60 ds = true
        · rw [if_pos p] at e
          cases e
          obtain ⟨vs, eH, rv⟩ := hH a _ q
          obtain ⟨a1, b1⟩ := pds_dp 60 ds vs p rv
          refine ⟨.lst (SqL.of eH) a1, ?_⟩
          have := pds_depth 60 ds p
          have dd : PyData.depth (.list (pds ds)) ≤ 64 := by simp only [PyData.depth]; omega
          unfold SeqAt.shaped
          rw [decide_eq_true dd]
          simp only [PyData.canLay0, b1]; rfl
        · rw [if_neg p] at e; cases e
      | dic _ => rw [q] at e; cases e
      | ins _ _ => rw [q] at e; cases e
end
/-! ### operators -/
def mulOk (i j : Int) : Prop := (-(2 ^ 64) < i ∧ i < 2 ^ 64) ∨ (-(2 ^ 64) < j ∧ j < 2 ^ 64)
def divOk (j : Int) : Prop := 0 < j ∧ j.natAbs.log2 < 9000
def addD : R1 := fun x y h Q => match x, y with
  | .int i, .int j => Q (.int (i + j)) h
  | .str a, .str b => a.length + b.length ≤ sizeLine ∧ Q (.str (a ++ b)) h
  | .tup a, .tup b => a.length + b.length ≤ sizeLine ∧ Q (.tup (a ++ b)) h
  | .ref p, .ref q => ∃ a b, h p = some (.lst a) ∧ h q = some (.lst b) ∧ a.length + b.length ≤ sizeLine ∧ ∀ l, h l = none → Q (.ref l) (up h l (.lst (a ++ b)))
  | _, _ => False
def subD : R1 := fun x y h Q => match x, y with
  | .int i, .int j => Q (.int (i - j)) h
  | _, _ => False
def mulD : R1 := fun x y h Q => match x, y with
  | .int i, .int j => mulOk i j ∧ Q (.int (i * j)) h
  | .ref p, .int k => ∃ a, h p = some (.lst a) ∧ (-(2 ^ 63) ≤ k ∧ k < 2 ^ 63) ∧ a.length * k.toNat ≤ sizeLine ∧ ∀ l, h l = none → Q (.ref l) (up h l (.lst (List.replicate k.toNat a).flatten))
  | _, _ => False
def fdivD : R1 := fun x y h Q => match x, y with
  | .int i, .int j => divOk j ∧ Q (.int (i / j)) h
  | _, _ => False
def modD : R1 := fun x y h Q => match x, y with
  | .int i, .int j => 0 < j ∧ Q (.int (i % j)) h
  | _, _ => False
def powD : R1 := fun x y h Q => match x, y with
  | .int i, .int j => CPow i j ∧ Q (.int (i ^ j.toNat)) h
  | _, _ => False
def shlD : R1 := fun x y h Q => match x, y with
  | .int i, .int j => CPow i j ∧ Q (.int (i * 2 ^ j.toNat)) h
  | _, _ => False
def shrD : R1 := fun x y h Q => match x, y with
  | .int i, .int j => 0 ≤ j ∧ Q (.int (i / 2 ^ j.toNat)) h
  | _, _ => False
def andD : R1 := fun x y h Q => match x, y with
  | .int i, .int j => Q (.int (Builtin.bitAnd i j)) h
  | _, _ => False
section
variable {K : KW} {h : MH} {H : Hp} {Q : KD} {QV : VK}
theorem Cl.int (c : Cl K h H Q QV) (hH : RepH K h H) {i : Int} (q : Q (.int i) h) : QV (.int i) H := c (.int i) h _ H Stp.refl hH rfl q
theorem Cl.bl (c : Cl K h H Q QV) (hH : RepH K h H) {i : Bool} (q : Q (.bool i) h) : QV (.bl i) H := c (.bool i) h _ H Stp.refl hH rfl q
theorem Cl.non (c : Cl K h H Q QV) (hH : RepH K h H) (q : Q .none h) : QV .non H := c .none h _ H Stp.refl hH rfl q
theorem Cl.str (c : Cl K h H Q QV) (hH : RepH K h H) {x : Str} (o : okS x) (q : Q (.str x) h) : QV (.str x) H := c (.str x) h _ H Stp.refl hH ⟨rfl, o⟩ q
theorem Cl.val (c : Cl K h H Q QV) (hH : RepH K h H) {d : D} {v : V} (r : RepV K H d v) (q : Q d h) : QV v H := c d h _ H Stp.refl hH r q
theorem Cl.new (c : Cl K h H Q QV) (hH : RepH K h H) {l : Addr} (n : H l = none) {ds : List D} {vs : List V} (r : RepVs K H ds vs) (q : Q (.ref l) (up h l (.lst ds))) : QV (.ref l) (upd H l (.lst vs)) :=
  c (.ref l) _ _ _ (Stp.new n) (hH.new n r) rfl q
theorem Cl.tup (c : Cl K h H Q QV) (hH : RepH K h H) {l : Addr} (n : H l = none) {ds : List D} {vs : List V} (r : RepVs K H ds vs) (q : Q (.tup ds) h) : QV (.ref l) (upd H l (.tup vs)) :=
  c (.tup ds) h _ _ (Stp.hide n) (hH.hide n) ⟨l, vs, rfl, .inl (.inl upd_same), RepVs.mono (Stp.mo hH (Stp.hide n)) _ r⟩ q
theorem Cl.write (c : Cl K h H Q QV) (hH : RepH K h H) {l : Addr} {d0 : List D} (e : h l = some (.lst d0)) {ds : List D} {vs : List V} (r : RepVs K H ds vs) {d : D} {v : V} (rv : RepV K H d v) (q : Q d (up h l (.lst ds))) : QV v (upd H l (.lst vs)) :=
  c d _ _ _ (Stp.write e) (hH.write e r) (RepV.mono (Stp.mo hH (Stp.write (u := .lst ds) e)) _ rv) q
end
section
variable {X : Cx}
theorem od_add : OpR X (binaryOp .Add) (lowR X.kw addD) := opR_of fun x y H QV ⟨d, e, h, Q, rx, ry, hH, hr, hc⟩ => by
  cases d <;> cases e <;> try exact hr.elim
  case int.int i j => exact ⟨_, op_add, i, j, rx, ry, hc.int hH hr⟩
  case str.str a b =>
    obtain ⟨rx, ox⟩ := rx
    obtain ⟨ry, oy⟩ := ry
    exact ⟨_, op_add_str, a, b, rx, ry, hr.1, hc.str hH (ox.app oy hr.1) hr.2⟩
  case tup.tup a b =>
    obtain ⟨p, vs, rfl, s1, r1⟩ := rx
    obtain ⟨q, us, rfl, s2, r2⟩ := ry
    have hl : vs.length + us.length ≤ sizeLine := by rw [← r1.length, ← r2.length]; exact hr.1
    have rr : RepVs X.kw H (a ++ b) (vs ++ us) := .of (P2.append r1.pair r2.pair)
    refine ⟨_, op_catA, p, q, vs, us, rfl, rfl, s1, s2, hl, fun z => ?_, fun _ z => ?_, fun _ _ l n => hc.tup hH n rr hr.2⟩
    · subst z
      have e : a = [] := List.eq_nil_of_length_eq_zero r1.length
      subst e
      exact hc.val hH (d := .tup b) ⟨q, us, rfl, s2, r2⟩ hr.2
    · subst z
      have e : b = [] := List.eq_nil_of_length_eq_zero r2.length
      subst e
      have q2 := hr.2
      rw [List.append_nil] at q2
      exact hc.val hH (d := .tup a) ⟨p, vs, rfl, s1, r1⟩ q2
  case ref.ref p q =>
    obtain ⟨a, b, e1, e2, hl, k⟩ := hr
    cases (show x = _ from rx)
    cases (show y = _ from ry)
    obtain ⟨vs, f1, r1⟩ := hH _ _ e1
    obtain ⟨us, f2, r2⟩ := hH _ _ e2
    refine ⟨_, op_cat, p, q, vs, us, rfl, rfl, f1, f2, by rw [← r1.length, ← r2.length]; exact hl, fun l n => ?_⟩
    exact hc.new hH n (.of (P2.append r1.pair r2.pair)) (k l (hH.nofresh n))
theorem od_sub : OpR X (binaryOp .Sub) (lowR X.kw subD) := opR_of fun x y H QV ⟨d, e, h, Q, rx, ry, hH, hr, hc⟩ => by
  cases d <;> cases e <;> try exact hr.elim
  case int.int i j => exact ⟨_, op_sub, i, j, rx, ry, hc.int hH hr⟩
theorem P2.rep {α β : Type} {R : α → β → Prop} {xs : List α} {us : List β} (h : Paired R xs us) : ∀ k : Nat, Paired R (List.replicate k xs).flatten (List.replicate k us).flatten
  | 0 => .nil
  | k + 1 => by rw [List.replicate_succ, List.replicate_succ, List.flatten_cons, List.flatten_cons]; exact P2.append h (P2.rep h k)
theorem od_mul : OpR X (binaryOp .Mult) (lowR X.kw mulD) := opR_of fun x y H QV ⟨d, e, h, Q, rx, ry, hH, hr, hc⟩ => by
  cases d <;> cases e <;> try exact hr.elim
  case int.int i j => exact ⟨_, op_mul, i, j, rx, ry, hr.1, hc.int hH hr.2⟩
  case ref.int p k =>
    obtain ⟨a, e1, hk, hl, q⟩ := hr
    cases (show x = _ from rx)
    cases (show y = _ from ry)
    obtain ⟨vs, f1, r1⟩ := hH _ _ e1
    refine ⟨_, op_rep, p, k, vs, rfl, rfl, f1, hk.1, hk.2, by rw [← r1.length]; exact hl, fun l n => ?_⟩
    exact hc.new hH n (.of (P2.rep r1.pair _)) (q l (hH.nofresh n))
theorem od_fdiv : OpR X (binaryOp .FloorDiv) (lowR X.kw fdivD) := opR_of fun x y H QV ⟨d, e, h, Q, rx, ry, hH, hr, hc⟩ => by
  cases d <;> cases e <;> try exact hr.elim
  case int.int i j => exact ⟨_, op_fdivW, i, j, rx, ry, hr.1, hc.int hH hr.2⟩
theorem od_mod : OpR X (binaryOp .Mod) (lowR X.kw modD) := opR_of fun x y H QV ⟨d, e, h, Q, rx, ry, hH, hr, hc⟩ => by
  cases d <;> cases e <;> try exact hr.elim
  case int.int i j => exact ⟨_, op_mod, i, j, rx, ry, hr.1, hc.int hH hr.2⟩
theorem od_pow : OpR X (binaryOp .Pow) (lowR X.kw powD) := opR_of fun x y H QV ⟨d, e, h, Q, rx, ry, hH, hr, hc⟩ => by
  cases d <;> cases e <;> try exact hr.elim
  case int.int i j => exact ⟨_, op_pow, i, j, rx, ry, hr.1, hc.int hH hr.2⟩
theorem od_shl : OpR X (binaryOp .LShift) (lowR X.kw shlD) := opR_of fun x y H QV ⟨d, e, h, Q, rx, ry, hH, hr, hc⟩ => by
  cases d <;> cases e <;> try exact hr.elim
  case int.int i j => exact ⟨_, op_shl, i, j, rx, ry, hr.1, hc.int hH hr.2⟩
theorem od_shr : OpR X (binaryOp .RShift) (lowR X.kw shrD) := opR_of fun x y H QV ⟨d, e, h, Q, rx, ry, hH, hr, hc⟩ => by
  cases d <;> cases e <;> try exact hr.elim
  case int.int i j => exact ⟨_, op_shr, i, j, rx, ry, hr.1, hc.int hH hr.2⟩
theorem od_and : OpR X (binaryOp .BitAnd) (lowR X.kw andD) := opR_of fun x y H QV ⟨d, e, h, Q, rx, ry, hH, hr, hc⟩ => by
  cases d <;> cases e <;> try exact hr.elim
  case int.int i j => exact ⟨_, op_and, i, j, rx, ry, hc.int hH hr⟩
/-! ### comparisons -/
def eqvO : Option PyData → Option PyData → (Bool → Prop) → Prop
  | some x, some y, k => k (PyData.eqv x y)
  | _, _, _ => False
def eqD : R1 := fun x y h Q => eqvO (view h x) (view h y) fun b => Q (.bool b) h
def neD : R1 := fun x y h Q => eqvO (view h x) (view h y) fun b => Q (.bool (!b)) h
theorem od_eq (hu : X.A.units + 64 < cLine) : OpR X (compareOp .Eq) (lowR X.kw eqD) := opR_of fun x y H QV ⟨d, e, h, Q, rx, ry, hH, hr, hc⟩ => by
  unfold eqD at hr
  cases e1 : view h d with
  | none => rw [e1] at hr; exact hr.elim
  | some p =>
    cases e2 : view h e with
    | none => rw [e1, e2] at hr; exact hr.elim
    | some q =>
      rw [e1, e2] at hr
      obtain ⟨a1, b1⟩ := view_dp hH rx e1
      obtain ⟨a2, b2⟩ := view_dp hH ry e2
      exact ⟨_, op_eqD hu, p, q, a1, a2, b1, b2, hc.bl hH hr⟩
theorem od_ne (hu : X.A.units + 64 < cLine) : OpR X (compareOp .NotEq) (lowR X.kw neD) := opR_of fun x y H QV ⟨d, e, h, Q, rx, ry, hH, hr, hc⟩ => by
  unfold neD at hr
  cases e1 : view h d with
  | none => rw [e1] at hr; exact hr.elim
  | some p =>
    cases e2 : view h e with
    | none => rw [e1, e2] at hr; exact hr.elim
    | some q =>
      rw [e1, e2] at hr
      obtain ⟨a1, b1⟩ := view_dp hH rx e1
      obtain ⟨a2, b2⟩ := view_dp hH ry e2
      exact ⟨_, op_neD hu, p, q, a1, a2, b1, b2, hc.bl hH hr⟩
def ltS (a b : Str) : Bool := decide (a.cps.toList < b.cps.toList)
def ltD : R1 := fun x y h Q => match x, y with
  | .int i, .int j => Q (.bool (decide (i < j))) h
  | .str i, .str j => Q (.bool (ltS i j)) h
  | _, _ => False
def leD : R1 := fun x y h Q => match x, y with
  | .int i, .int j => Q (.bool (decide (i ≤ j))) h
  | .str i, .str j => Q (.bool (!ltS j i)) h
  | _, _ => False
def gtD : R1 := fun x y h Q => match x, y with
  | .int i, .int j => Q (.bool (decide (j < i))) h
  | .str i, .str j => Q (.bool (ltS j i)) h
  | _, _ => False
def geD : R1 := fun x y h Q => match x, y with
  | .int i, .int j => Q (.bool (decide (j ≤ i))) h
  | .str i, .str j => Q (.bool (!ltS i j)) h
  | _, _ => False
theorem od_lt : OpR X (compareOp .Lt) (lowR X.kw ltD) := opR_of fun x y H QV ⟨d, e, h, Q, rx, ry, hH, hr, hc⟩ => by
  cases d <;> cases e <;> try exact hr.elim
  case int.int i j => exact ⟨_, op_lt, i, j, rx, ry, hc.bl hH hr⟩
  case str.str i j => exact ⟨_, op_lt_str, i, j, rx.1, ry.1, hc.bl hH hr⟩
theorem od_le : OpR X (compareOp .LtE) (lowR X.kw leD) := opR_of fun x y H QV ⟨d, e, h, Q, rx, ry, hH, hr, hc⟩ => by
  cases d <;> cases e <;> try exact hr.elim
  case int.int i j => exact ⟨_, op_le, i, j, rx, ry, hc.bl hH hr⟩
  case str.str i j => exact ⟨_, op_le_str, i, j, rx.1, ry.1, hc.bl hH hr⟩
theorem od_gt : OpR X (compareOp .Gt) (lowR X.kw gtD) := opR_of fun x y H QV ⟨d, e, h, Q, rx, ry, hH, hr, hc⟩ => by
  cases d <;> cases e <;> try exact hr.elim
  case int.int i j => exact ⟨_, op_gt, i, j, rx, ry, hc.bl hH hr⟩
  case str.str i j => exact ⟨_, op_gt_str, i, j, rx.1, ry.1, hc.bl hH hr⟩
theorem od_ge : OpR X (compareOp .GtE) (lowR X.kw geD) := opR_of fun x y H QV ⟨d, e, h, Q, rx, ry, hH, hr, hc⟩ => by
  cases d <;> cases e <;> try exact hr.elim
  case int.int i j => exact ⟨_, op_ge, i, j, rx, ry, hc.bl hH hr⟩
  case str.str i j => exact ⟨_, op_ge_str, i, j, rx.1, ry.1, hc.bl hH hr⟩
end
end DL
namespace DL
open PySem PySem.Spec PyProof.Rows L2
/-! ### dicts, on the data level -/
def dget (kvs : Kvs) (k : D) : Option D := (kvs.find? fun p => decide (nk p.1 = nk k)).map (·.2)
def dset (kvs : Kvs) (k v : D) : Kvs := if (dget kvs k).isSome = true then kvs.map (fun p => if nk p.1 = nk k then (p.1, v) else p) else kvs ++ [(k, v)]
/-- all keys are numbers and texts, or all are tuples -/
def fit (kvs : Kvs) (k : D) : Bool := ((scaK k).isSome && kvs.all fun p => (scaK p.1).isSome) || (tupK k && kvs.all fun p => tupK p.1)
def RO {α β : Type} (R : α → β → Prop) : Option α → Option β → Prop
  | none, none => True
  | some a, some b => R a b
  | _, _ => False
theorem RO.isSome {α β : Type} {R : α → β → Prop} : ∀ {x : Option α} {y : Option β}, RO R x y → y.isSome = x.isSome
  | none, none, _ => rfl
  | some _, some _, _ => rfl
theorem RO.some_ {α β : Type} {R : α → β → Prop} : ∀ {x : Option α} {y : Option β} {a : α}, RO R x y → x = some a → ∃ b, y = some b ∧ R a b
  | some _, some b, _, r, e => by cases e; exact ⟨b, rfl, r⟩
/-- the key of a number, a text -/
def kNK : L2.Key → NK
  | .inl i => .num i
  | .inr x => .text x
theorem kNK_inj {a b : L2.Key} (h : kNK a = kNK b) : a = b := by
  cases a <;> cases b <;> (unfold kNK at h; cases h) <;> rfl
theorem scaK_nk {d : D} {k : L2.Key} (h : scaK d = some k) : nk d = some (kNK k) := by
  cases d <;> first | (cases h; done) | (cases h; rfl)
section
variable {K : KW} {H : Hp}
theorem dget_K {kvs : Kvs} {kv : List (L2.Key × V)} {d : D} {k : L2.Key} (r : RepKs K H kvs kv) (e : scaK d = some k) : RO (RepV K H) (dget kvs d) (valV kv k) := by
  induction r with
  | nil => exact True.intro
  | @cons p q ps qs h t ih =>
    have e1 := scaK_nk h.1
    have e2 := scaK_nk e
    unfold dget at ih ⊢
    by_cases z : q.1 = k
    · rw [List.find?_cons_of_pos (by simp [e1, e2, z]), valV_pos z]
      exact h.2.2
    · rw [List.find?_cons_of_neg (by rw [e1, e2]; simp only [Option.some.injEq, decide_eq_true_eq]; exact fun y => z (kNK_inj y)), valV_neg z]
      exact ih
theorem dget_N {kvs : Kvs} {xs : List Ent} {d : D} {k : NK} (r : RepNs K H kvs xs) (e : nk d = some k) : RO (RepV K H) (dget kvs d) (entAt xs k) := by
  induction r with
  | nil => exact True.intro
  | @cons p q ps qs h t ih =>
    unfold dget entAt at ih ⊢
    by_cases z : q.1 = k
    · rw [List.find?_cons_of_pos (by simp [h.1, e, z]), List.find?_cons_of_pos (by simp [z])]
      exact h.2.2
    · rw [List.find?_cons_of_neg (by simp [h.1, e, z]), List.find?_cons_of_neg (by simp [z])]
      exact ih
theorem repl_K {kvs : Kvs} {kv : List (L2.Key × V)} {d e : D} {k : L2.Key} {z : V} (r : RepKs K H kvs kv) (ek : scaK d = some k) (re : RepV K H e z) :
    RepKs K H (kvs.map (fun p => if nk p.1 = nk d then (p.1, e) else p)) (kv.map fun x => if x.1 = k then (x.1, z) else x) := by
  induction r with
  | nil => exact .nil
  | @cons p q ps qs h t ih =>
    rw [List.map_cons, List.map_cons]
    refine .cons ?_ ih
    have e1 := scaK_nk h.1
    have e2 := scaK_nk ek
    by_cases y : q.1 = k
    · rw [if_pos (by rw [e1, e2, y]), if_pos y]; exact ⟨h.1, h.2.1, re⟩
    · rw [if_neg (by rw [e1, e2]; intro w; exact y (kNK_inj (Option.some.inj w))), if_neg y]; exact h
theorem dset_K {kvs : Kvs} {kv : List (L2.Key × V)} {d e : D} {k : L2.Key} {v z : V} (r : RepKs K H kvs kv) (ek : scaK d = some k) (rd : RepV K H d v) (re : RepV K H e z) : RepKs K H (dset kvs d e) (putK kv k z) := by
  have iso := (dget_K r ek).isSome
  unfold dset putK
  rw [valV_any, iso]
  split
  · exact repl_K r ek re
  · exact Paired.snoc r ⟨ek, by rw [← sca_rep rd ek]; exact rd, re⟩
theorem repl_N {kvs : Kvs} {xs : List Ent} {d e : D} {k : NK} {z : V} (r : RepNs K H kvs xs) (ek : nk d = some k) (re : RepV K H e z) :
    RepNs K H (kvs.map (fun p => if nk p.1 = nk d then (p.1, e) else p)) (xs.map fun x => if x.1 = k then (x.1, x.2.1, z) else x) := by
  induction r with
  | nil => exact .nil
  | @cons p q ps qs h t ih =>
    rw [List.map_cons, List.map_cons]
    refine .cons ?_ ih
    by_cases y : q.1 = k
    · rw [if_pos (by rw [h.1, ek, y]), if_pos y]; exact ⟨h.1, h.2.1, re⟩
    · rw [if_neg (by rw [h.1, ek]; intro w; exact y (Option.some.inj w)), if_neg y]; exact h
theorem dset_N {kvs : Kvs} {xs : List Ent} {d e : D} {k : NK} {v z : V} (r : RepNs K H kvs xs) (ek : nk d = some k) (rd : RepV K H d v) (re : RepV K H e z) : RepNs K H (dset kvs d e) (entPut xs k v z) := by
  have iso := (dget_N r ek).isSome
  unfold dset entPut
  rw [iso]
  split
  · exact repl_N r ek re
  · exact Paired.snoc r ⟨ek, rd, re⟩
theorem dset_len (kvs : Kvs) (k v : D) : (dset kvs k v).length ≤ kvs.length + 1 := by
  unfold dset; split
  · rw [List.length_map]; exact Nat.le_succ _
  · rw [List.length_append]; exact Nat.le_refl _
theorem dset_all {kvs : Kvs} {k v : D} {P : D → Bool} (h : kvs.all (fun p => P p.1) = true) (hk : P k = true) : (dset kvs k v).all (fun p => P p.1) = true := by
  unfold dset; split
  · rw [List.all_map]
    rw [List.all_eq_true] at h ⊢
    intro p hp
    show P (if nk p.1 = nk k then (p.1, v) else p).1 = true
    split <;> exact h p hp
  · rw [List.all_append, h]; simp [hk]
theorem upd_id {a : Addr} {o : HO} (e : H a = some o) : upd H a o = H := by
  funext b; unfold upd; split
  · rename_i z; rw [z, e]
  · rfl
/-- values don't change by an object that is not hidden -/
theorem Mo.upd {a : Addr} {o u : HO} (e : H a = some u) (n : hid u = false) : Mo K H (L2.upd H a o) := by
  have t : ∀ b x, hid x = true → H b = some x → L2.upd H a o b = some x := fun b x hx q => by
    rw [upd_ne]; exact q
    intro z; rw [z, e] at q; cases q; rw [n] at hx; cases hx
  refine ⟨fun b xs q => ?_, fun b xs q => ?_⟩
  · rcases q with (q | ⟨x, q⟩) | q
    · exact .inl (.inl (t b _ rfl q))
    · exact .inl (.inr ⟨x, t b _ rfl q⟩)
    · exact .inr q
  · rcases q with ⟨x, q⟩ | q
    · exact .inl ⟨x, t b _ rfl q⟩
    · exact .inr q
theorem RepKs.mono {H' : Hp} (m : Mo K H H') {kvs : Kvs} {kv : List (L2.Key × V)} (r : RepKs K H kvs kv) : RepKs K H' kvs kv := P2.mono (fun _ _ z => ⟨z.1, RepV.mono m _ z.2.1, RepV.mono m _ z.2.2⟩) r
theorem RepNs.mono {H' : Hp} (m : Mo K H H') {kvs : Kvs} {xs : List Ent} (r : RepNs K H kvs xs) : RepNs K H' kvs xs := P2.mono (fun _ _ z => ⟨z.1, RepV.mono m _ z.2.1, RepV.mono m _ z.2.2⟩) r
theorem RepKs.nil_ {kv : List (L2.Key × V)} (r : RepKs K H [] kv) : kv = [] := by cases r; rfl
theorem RepNs.nil_ {xs : List Ent} (r : RepNs K H [] xs) : xs = [] := by cases r; rfl
end
section
variable {X : Cx} {pins : List (Addr × Obj)} {σ : L2.St} {H : Hp} {a : Addr} {kvs : Kvs} {d e : D} {v : V} {u : Value}
/-- the dict as one of numbers and texts -/
structure AsK (X : Cx) (pins : List (Addr × Obj)) (σ : L2.St) (H : Hp) (a : Addr) (kvs : Kvs) where
  kv : List (L2.Key × V)
  rep : RepKs X.kw H kvs kv
  to_ : ∀ s, Inv X pins σ H s → Inv X pins σ (upd H a (.dK kv)) s
  from_ : ∀ s, Inv X pins σ (upd H a (.dK kv)) s → Inv X pins σ H s
  mo : ∀ o, Mo X.kw H (upd H a o)
/-- the dict as one of tuples -/
structure AsN (X : Cx) (pins : List (Addr × Obj)) (σ : L2.St) (H : Hp) (a : Addr) (kvs : Kvs) where
  xs : List Ent
  rep : RepNs X.kw H kvs xs
  dic : NDict X (upd H a (dobj X.w a xs)) a xs
  to_ : ∀ s, Inv X pins σ H s → Inv X pins σ (upd H a (dobj X.w a xs)) s
  from_ : ∀ s, Inv X pins σ (upd H a (dobj X.w a xs)) s → Inv X pins σ H s
  mo : ∀ o, Mo X.kw H (upd H a o)
theorem RepNs.keys (r : RepNs X.kw H kvs xs) (t : ∀ p ∈ kvs, tupK p.1 = true) : ∀ x ∈ xs, (∃ ks, x.1 = .tup ks) ∧ x.1.depth ≤ 8 ∧ KIs X.K H x.1 x.2.1 := by
  induction r with
  | nil => intro x hx; simp at hx
  | @cons p q ps qs h _ ih =>
    intro x hx
    rcases List.mem_cons.mp hx with rfl | hx
    · obtain ⟨ks, e1, e2⟩ := tupK_some (t p (by simp))
      have e3 := h.1
      rw [e1] at e3
      have e4 := Option.some.inj e3
      exact ⟨⟨ks, e4.symm⟩, by rw [← e4]; exact e2, nk_kis (K := X.kw) _ h.2.1 h.1⟩
    · exact ih (fun p hp => t p (by simp [hp])) x hx
theorem low_of {s : Shared} (I : Inv X pins σ H s) {kv : List (L2.Key × V)} (e : H a = some (.dK kv)) : (a == sysModules) = false ∧ kv.length ≤ sizeLine := let ⟨z, b, _⟩ := dk_of I.hok e; ⟨b, z⟩
theorem as_K {s : Shared} (I : Inv X pins σ H s) (r : RepO X.kw H a (.dic kvs)) (h : kvs.all (fun p => (scaK p.1).isSome) = true) : Nonempty (AsK X pins σ H a kvs) := by
  rcases r with ⟨kv, e, r⟩ | ⟨xs, r⟩
  · exact ⟨⟨kv, r, fun s I => by rw [upd_id e]; exact I, fun s I => by rw [upd_id e] at I; exact I, fun o => Mo.upd e rfl⟩⟩
  · cases kvs with
    | nil =>
      have ex := r.rep.nil_
      subst ex
      refine ⟨⟨[], .nil, fun s I => empty_k I r.at_ r.low, fun s I => ?_, fun o => Mo.upd r.at_ rfl⟩⟩
      have J := empty_n I upd_same
      rw [upd_upd] at J
      have z : upd H a (dobj X.w a []) = H := upd_id r.at_
      rw [z] at J; exact J
    | cons p ps =>
      have h1 := r.tup p (by simp)
      have h2 : (scaK p.1).isSome = true := by rw [List.all_cons, Bool.and_eq_true] at h; exact h.1
      cases q : p.1 <;> rw [q] at h1 h2 <;> first | (cases h1; done) | (cases h2; done)
theorem as_N {s : Shared} (I : Inv X pins σ H s) (r : RepO X.kw H a (.dic kvs)) (h : kvs.all (fun p => tupK p.1) = true) : Nonempty (AsN X pins σ H a kvs) := by
  have t : ∀ p ∈ kvs, tupK p.1 = true := fun p hp => (List.all_eq_true.mp h) p hp
  rcases r with ⟨kv, e, r⟩ | ⟨xs, r⟩
  · cases kvs with
    | nil =>
      have ex := r.nil_
      subst ex
      obtain ⟨low, _⟩ := low_of I e
      refine ⟨⟨[], .nil, ⟨upd_same, low, Nat.zero_le _, by simp, by simp⟩, fun s I => empty_n I e, fun s I => ?_, fun o => Mo.upd e rfl⟩⟩
      have J := empty_k I upd_same low
      rw [upd_upd] at J
      have z : upd H a (.dK []) = H := upd_id e
      rw [z] at J; exact J
    | cons p ps =>
      cases r with
      | cons q _ =>
        have h1 := t p (by simp)
        have h2 := q.1
        cases y : p.1 <;> rw [y] at h1 h2 <;> first | (cases h1; done) | (cases h2; done)
  · have z : upd H a (dobj X.w a xs) = H := upd_id r.at_
    exact ⟨⟨xs, r.rep, ⟨upd_same, r.low, by rw [← r.rep.length]; exact r.len, by rw [z]; exact r.rep.keys t, r.nd⟩, fun s I => by rw [z]; exact I, fun s I => by rw [z] at I; exact I, fun o => Mo.upd r.at_ rfl⟩⟩
theorem fit_or (h : fit kvs d = true) : (∃ k, scaK d = some k ∧ kvs.all (fun p => (scaK p.1).isSome) = true) ∨ (∃ k, nk d = some k ∧ tupK d = true ∧ kvs.all (fun p => tupK p.1) = true) := by
  unfold fit at h
  rw [Bool.or_eq_true, Bool.and_eq_true, Bool.and_eq_true] at h
  rcases h with h | h
  · obtain ⟨k, e⟩ := Option.isSome_iff_exists.mp h.1
    exact .inl ⟨k, e, h.2⟩
  · obtain ⟨ks, e, _⟩ := tupK_some h.1
    exact .inr ⟨_, e, h.1, h.2⟩
theorem nkey_of {k : NK} {H : Hp} (t : tupK d = true) (e : nk d = some k) (r : RepV X.kw H d v) : NKey X H k v := by
  obtain ⟨ks, e2, dp⟩ := tupK_some t
  rw [e] at e2
  have e3 := Option.some.inj e2
  exact ⟨⟨ks, e3⟩, by rw [e3]; exact dp, nk_kis (K := X.kw) _ r e⟩
/-! the operations -/
def VO (K : KW) (H : Hp) (e : D) (w : Value) : Prop := ∃ z, RelV z w ∧ RepV K H e z
variable {s : Shared} {E : Value → Shared → Prop}
theorem RO.getD {α β : Type} {R : α → β → Prop} {x : Option α} {y : Option β} {a : α} {b : β} (r : RO R x y) (h : R a b) : R (x.getD a) (y.getD b) := by
  cases x <;> cases y <;> first | exact h | exact r | exact (show False from r).elim
theorem mo_back {H H' : Hp} (m : Mo X.kw H H') {d : D} {v : V} (r : RepV X.kw H d v) : RepV X.kw H' d v := RepV.mono m _ r
theorem dd_getItem {Q : Value → Shared → Prop} {f : D} (hu : X.A.units + 64 < cLine) (I : Inv X pins σ H s) (ro : RepO X.kw H a (.dic kvs)) (rd : RepV X.kw H d v) (ru : RelV v u) (hf : fit kvs d = true) (hg : dget kvs d = some f)
    (h : ∀ w s', Inv X pins σ H s' → VO X.kw H f w → Q w s') : wpAny (model X.prog X.w) X.A (getItem (.ref a) u) Q E s := by
  rcases fit_or hf with ⟨k, ek, al⟩ | ⟨k, ek, tk, al⟩
  · obtain ⟨A⟩ := as_K I ro al
    obtain ⟨z, hz, rz⟩ := (dget_K A.rep ek).some_ hg
    cases sca_rep rd ek
    refine d_getItem (by omega) (A.to_ s I) (.inl ⟨A.kv, k, .inl upd_same, rfl, hz.symm⟩) ru fun w' s' I' rw' => h w' s' (A.from_ s' I') ⟨z, rw', rz⟩
  · obtain ⟨A⟩ := as_N I ro al
    obtain ⟨z, hz, rz⟩ := (dget_N A.rep ek).some_ hg
    exact n_getItem hu (A.to_ s I) A.dic (nkey_of tk ek (mo_back (A.mo _) rd)) ru hz fun w' s' I' rw' => h w' s' (A.from_ s' I') ⟨z, rw', rz⟩
theorem dd_in {Q : Value → Shared → Prop} (hu : X.A.units + 64 < cLine) (I : Inv X pins σ H s) (ro : RepO X.kw H a (.dic kvs)) (rd : RepV X.kw H d v) (ru : RelV v u) (hf : fit kvs d = true)
    (h : ∀ s', Inv X pins σ H s' → Q (.bool (dget kvs d).isSome) s') : wpAny (model X.prog X.w) X.A (compareOp .In u (.ref a)) Q E s := by
  rcases fit_or hf with ⟨k, ek, al⟩ | ⟨k, ek, tk, al⟩
  · obtain ⟨A⟩ := as_K I ro al
    cases sca_rep rd ek
    refine d_in (o := valV A.kv k) (by omega) (A.to_ s I) (.inl ⟨A.kv, k, .inl upd_same, rfl, rfl⟩) ru fun s' I' => ?_
    rw [(dget_K A.rep ek).isSome]; exact h s' (A.from_ s' I')
  · obtain ⟨A⟩ := as_N I ro al
    refine n_in hu (A.to_ s I) A.dic (nkey_of tk ek (mo_back (A.mo _) rd)) ru fun s' I' => ?_
    rw [(dget_N A.rep ek).isSome]; exact h s' (A.from_ s' I')
theorem dd_notIn {Q : Value → Shared → Prop} (hu : X.A.units + 64 < cLine) (I : Inv X pins σ H s) (ro : RepO X.kw H a (.dic kvs)) (rd : RepV X.kw H d v) (ru : RelV v u) (hf : fit kvs d = true)
    (h : ∀ s', Inv X pins σ H s' → Q (.bool (!(dget kvs d).isSome)) s') : wpAny (model X.prog X.w) X.A (compareOp .NotIn u (.ref a)) Q E s := by
  rcases fit_or hf with ⟨k, ek, al⟩ | ⟨k, ek, tk, al⟩
  · obtain ⟨A⟩ := as_K I ro al
    cases sca_rep rd ek
    refine d_notIn (o := valV A.kv k) (by omega) (A.to_ s I) (.inl ⟨A.kv, k, .inl upd_same, rfl, rfl⟩) ru fun s' I' => ?_
    rw [(dget_K A.rep ek).isSome]; exact h s' (A.from_ s' I')
  · obtain ⟨A⟩ := as_N I ro al
    refine n_notIn hu (A.to_ s I) A.dic (nkey_of tk ek (mo_back (A.mo _) rd)) ru fun s' I' => ?_
    rw [(dget_N A.rep ek).isSome]; exact h s' (A.from_ s' I')
theorem dd_setItem {Q : Unit → Shared → Prop} {z : V} {uz : Value} (hu : X.A.units + 64 < cLine) (I : Inv X pins σ H s) (ro : RepO X.kw H a (.dic kvs)) (rd : RepV X.kw H d v) (ru : RelV v u) (re : RepV X.kw H e z) (rz : RelV z uz) (hf : fit kvs d = true)
    (hl : kvs.length < sizeLine) (h : ∀ s' o, Inv X pins σ (upd H a o) s' → RepO X.kw (upd H a o) a (.dic (dset kvs d e)) → Q () s') : wpAny (model X.prog X.w) X.A (setItem (.ref a) u uz) Q E s := by
  rcases fit_or hf with ⟨k, ek, al⟩ | ⟨k, ek, tk, al⟩
  · obtain ⟨A⟩ := as_K I ro al
    cases sca_rep rd ek
    have rs := dset_K A.rep ek rd re
    refine d_setItem (H' := upd H a (.dK (putK A.kv k z))) (by omega) (A.to_ s I) (.inl ⟨A.kv, k, upd_same, rfl, by rw [← A.rep.length]; exact hl, by rw [upd_upd]⟩) ru rz fun s' I' => ?_
    exact h s' _ I' (.inl ⟨_, upd_same, rs.mono (A.mo _)⟩)
  · obtain ⟨A⟩ := as_N I ro al
    have rs := dset_N A.rep ek rd re
    have nk' := nkey_of tk ek (mo_back (A.mo (dobj X.w a A.xs)) rd)
    refine n_setItem hu (A.to_ s I) A.dic nk' ru rz fun s' I' => ?_
    rw [upd_upd] at I'
    refine h s' _ I' (.inr ⟨_, ⟨upd_same, rs.mono (A.mo _), ?_, entPut_nd _ _ _ A.dic.nd, ?_, A.dic.low⟩⟩)
    · exact fun p hp => List.all_eq_true.mp (dset_all al tk) p hp
    · exact Nat.le_trans (dset_len _ _ _) hl
theorem dd_get2 {Q : Value → Shared → Prop} {z : V} {uz : Value} (hu : X.A.units + 64 < cLine) (I : Inv X pins σ H s) (ro : RepO X.kw H a (.dic kvs)) (rd : RepV X.kw H d v) (ru : RelV v u) (re : RepV X.kw H e z) (rz : RelV z uz) (hf : fit kvs d = true)
    (h : ∀ w s', Inv X pins σ H s' → VO X.kw H ((dget kvs d).getD e) w → Q w s') : wpAny (model X.prog X.w) X.A (call (.builtin "dict.get") [.ref a, u, uz]) Q E s := by
  rcases fit_or hf with ⟨k, ek, al⟩ | ⟨k, ek, tk, al⟩
  · obtain ⟨A⟩ := as_K I ro al
    cases sca_rep rd ek
    exact d_get2 (o := valV A.kv k) (by omega) (A.to_ s I) (.inl ⟨A.kv, k, .inl upd_same, rfl, rfl⟩) ru rz fun w' s' I' rw' => h w' s' (A.from_ s' I') ⟨_, rw', (dget_K A.rep ek).getD re⟩
  · obtain ⟨A⟩ := as_N I ro al
    exact n_get hu (A.to_ s I) A.dic (nkey_of tk ek (mo_back (A.mo _) rd)) ru rz fun w' s' I' rw' => h w' s' (A.from_ s' I') ⟨_, rw', (dget_N A.rep ek).getD re⟩
theorem dd_get1 {Q : Value → Shared → Prop} (hu : X.A.units + 64 < cLine) (I : Inv X pins σ H s) (ro : RepO X.kw H a (.dic kvs)) (rd : RepV X.kw H d v) (ru : RelV v u) (hf : fit kvs d = true)
    (h : ∀ w s', Inv X pins σ H s' → VO X.kw H ((dget kvs d).getD .none) w → Q w s') : wpAny (model X.prog X.w) X.A (call (.builtin "dict.get") [.ref a, u]) Q E s := by
  rcases fit_or hf with ⟨k, ek, al⟩ | ⟨k, ek, tk, al⟩
  · obtain ⟨A⟩ := as_K I ro al
    cases sca_rep rd ek
    exact d_get1 (o := valV A.kv k) (by omega) (A.to_ s I) (.inl ⟨A.kv, k, .inl upd_same, rfl, rfl⟩) ru fun w' s' I' rw' => h w' s' (A.from_ s' I') ⟨_, rw', (dget_K A.rep ek).getD (a := D.none) (b := V.non) (show V.non = V.non from rfl)⟩
  · obtain ⟨A⟩ := as_N I ro al
    exact n_get1 hu (A.to_ s I) A.dic (nkey_of tk ek (mo_back (A.mo _) rd)) ru fun w' s' I' rw' => h w' s' (A.from_ s' I') ⟨_, rw', (dget_N A.rep ek).getD (a := D.none) (b := V.non) (show V.non = V.non from rfl)⟩
/-- that a dict stands there -/
theorem dic_type (I : Inv X pins σ H s) (ro : RepO X.kw H a (.dic kvs)) : s.TypeIs (.ref a) "dict" := by
  rcases ro with ⟨kv, e, _⟩ | ⟨xs, r⟩
  · obtain ⟨_, _, vs, _, dd⟩ := dk_of I.hok e
    exact dd.typeIs
  · obtain ⟨⟨o, es, ep, e, c, _⟩, _⟩ := (show ObjOk X.prog X.w H s.heap a (dobj X.w a xs) from I.hok a _ r.at_)
    exact ⟨o, e, c.1⟩
/-! deep: in a tuple -/
def rInT (K : PySem.W.Frag) (neg : Bool) : R2 := fun x y H Q => ∃ d ds, Dp K H x d ∧ Dp K H y (.tuple ds) ∧ SeqAt.shaped d = true ∧ SeqAt.shaped (.tuple ds) = true ∧ Q (.bl (if neg = true then !(ds.any fun z => PyData.eqv z d) else ds.any fun z => PyData.eqv z d)) H
theorem op_inT (hu : X.A.units + 65 < cLine) : OpR X (compareOp .In) (rInT X.K false) := by
  intro pins s σ H x y v u Q I rx ry ⟨d, ds, hd, he, sd, se, q⟩
  have q : Q (.bl (ds.any fun z => PyData.eqv z d)) H := q
  obtain ⟨_, r1⟩ := Dp.reads I d x v hd rx
  obtain ⟨_, r2⟩ := Dp.reads I (.tuple ds) y u he ry
  exact SeqAt.in_tuple_reads r2 r1 (SeqAt.canLay_of_shaped se) (SeqAt.canLay_of_shaped sd) (room_in_shaped sd hu) ⟨.bl _, H, I, rfl, q⟩
theorem op_notInT (hu : X.A.units + 65 < cLine) : OpR X (compareOp .NotIn) (rInT X.K true) := by
  intro pins s σ H x y v u Q I rx ry ⟨d, ds, hd, he, sd, se, q⟩
  have q : Q (.bl (!ds.any fun z => PyData.eqv z d)) H := q
  obtain ⟨_, r1⟩ := Dp.reads I d x v hd rx
  obtain ⟨_, r2⟩ := Dp.reads I (.tuple ds) y u he ry
  exact SeqAt.notIn_tuple_reads r2 r1 (SeqAt.canLay_of_shaped se) (SeqAt.canLay_of_shaped sd) (room_in_shaped sd hu) ⟨.bl _, H, I, rfl, q⟩
end
end DL
namespace DL
open PySem PySem.Spec PyProof.Rows L2
/-- the items of what stands in a row -/
def seqO : Option MO → Option (List D)
  | some (.lst ds) => some ds
  | _ => none
def seqOf (h : MH) : D → Option (List D)
  | .tup ds => some ds
  | .rol ds => some ds
  | .ref a => seqO (h a)
  | .none => none
  | .bool _ => none
  | .int _ => none
  | .str _ => none
  | .ty _ => none
theorem seq_rep {K : KW} {h : MH} {H : Hp} (hH : RepH K h H) : ∀ {d : D} {v : V} {ds : List D}, RepV K H d v → seqOf h d = some ds → ∃ a vs, v = .ref a ∧ RepVs K H ds vs ∧ (SqL K.F H a vs ∨ SqT K.F H a vs)
  | .tup _, _, _, r, e => by
    obtain ⟨a, vs, ev, s, q⟩ := r
    cases e
    exact ⟨a, vs, ev, q, .inr s⟩
  | .rol _, _, _, r, e => by
    obtain ⟨a, vs, ev, s, q⟩ := r
    cases e
    exact ⟨a, vs, ev, q, .inl s.sq⟩
  | .none, _, _, _, e => by cases e
  | .bool _, _, _, _, e => by cases e
  | .int _, _, _, _, e => by cases e
  | .str _, _, _, _, e => by cases e
  | .ty _, _, _, _, e => by cases e
  | .ref a, v, ds, r, e => by
    cases (show v = .ref a from r)
    have e : seqO (h a) = some ds := e
    cases q : h a with
    | none => rw [q] at e; cases e
    | some o =>
      cases o with
      | lst ds' =>
        rw [q] at e
        cases e
        obtain ⟨vs, eH, rv⟩ := hH a _ q
        exact ⟨a, vs, rfl, rv, .inl (SqL.of eH)⟩
      | dic _ => rw [q] at e; cases e
      | ins _ _ => rw [q] at e; cases e
/-! ### in -/
def eqF (x y : D) : Bool := PyData.eqv (pd x) (pd y)
def inS (a z : Str) : Bool := !(Builtin.Str.occurrences z a 0 z.length 1).isEmpty
theorem inS_one (c : Nat) (z : Str) : inS ⟨#[c]⟩ z = decide (c ∈ z.cps.toList) := PySem.StrLaws.found_one z c
def inStr (x : D) (z : Str) (k : Bool → Prop) : Prop := match x with
  | .str a => k (inS a z)
  | _ => False
def inSeq (x : D) (k : Bool → Prop) (ds : List D) : Prop := pure? 60 x = true ∧ pures? 60 ds = true ∧ k (ds.any fun z => eqF z x)
def inDic (kvs : Kvs) (x : D) (k : Bool → Prop) : Prop := fit kvs x = true ∧ k (dget kvs x).isSome
def inO (x : D) (k : Bool → Prop) : Option MO → Prop
  | some (.lst ds) => inSeq x k ds
  | some (.dic kvs) => inDic kvs x k
  | _ => False
def inAny (x y : D) (h : MH) (k : Bool → Prop) : Prop := match y with
  | .str z => inStr x z k
  | .ref a => inO x k (h a)
  | .tup ds => inSeq x k ds
  | .rol ds => inSeq x k ds
  | _ => False
def inD : R1 := fun x y h Q => inAny x y h fun b => Q (.bool b) h
def ninD : R1 := fun x y h Q => inAny x y h fun b => Q (.bool (!b)) h
theorem any_pds (x : D) : ∀ ds : List D, ((pds ds).any fun z => PyData.eqv z (pd x)) = ds.any fun z => eqF z x
  | [] => by simp [pds]
  | d :: ds => by rw [pds, List.any_cons, List.any_cons, any_pds x ds]; rfl
section
variable {K : KW} {h : MH} {H : Hp}
theorem dp_of {x : D} {v : V} (r : RepV K H x v) (p : pure? 60 x = true) : Dp K.F H v (pd x) ∧ SeqAt.shaped (pd x) = true := viewP_dp r (by unfold viewP; rw [if_pos p])
theorem dps_of {ds : List D} {vs : List V} (r : RepVs K H ds vs) (p : pures? 60 ds = true) : DpAll K.F H vs (pds ds) ∧ SeqAt.shaped (.list (pds ds)) = true ∧ SeqAt.shaped (.tuple (pds ds)) = true := by
  obtain ⟨a, b⟩ := pds_dp 60 ds vs p r
  have := pds_depth 60 ds p
  refine ⟨a, ?_, ?_⟩
  · unfold SeqAt.shaped
    rw [decide_eq_true (show PyData.depth (.list (pds ds)) ≤ 64 by simp only [PyData.depth]; omega)]
    simp only [PyData.canLay0, b]; rfl
  · unfold SeqAt.shaped
    rw [decide_eq_true (show PyData.depth (.tuple (pds ds)) ≤ 64 by simp only [PyData.depth]; omega)]
    simp only [PyData.canLay0, b]; rfl
end
section
variable {X : Cx}
theorem od_in (hu : X.A.units + 65 < cLine) : OpR X (compareOp .In) (lowR X.kw inD) := by
  intro pins s σ H x y v u QV I rv ru ⟨d, e, h, Q, rx, ry, hH, hr, hc⟩
  have hr : inAny d e h fun b => Q (.bool b) h := hr
  have lst : ∀ {a : Addr} {vs : List V} {ds : List D}, y = .ref a → SqL X.K H a vs → RepVs X.kw H ds vs → inSeq d (fun b => Q (.bool b) h) ds → wpAny (model X.prog X.w) X.A (compareOp .In v u) (EP X pins σ QV) X.xe s := by
    rintro a vs ds rfl sq rs ⟨p1, p2, q⟩
    obtain ⟨a1, b1⟩ := dp_of rx p1
    obtain ⟨a2, b2, _⟩ := dps_of rs p2
    refine op_inD hu pins s σ H x _ v u QV I rv ru ⟨pd d, pds ds, a1, .lst sq a2, b1, b2, ?_⟩
    rw [any_pds]; exact hc.bl hH q
  cases e with
  | str z =>
    cases d <;> first | (exact hr.elim) | skip
    exact op_in_str pins s σ H x y v u QV I rv ru ⟨_, _, rx.1, ry.1, hc.bl hH hr⟩
  | tup ds =>
    obtain ⟨a, vs, rfl, sq, rs⟩ := ry
    obtain ⟨p1, p2, q⟩ := (show inSeq d (fun b => Q (.bool b) h) ds from hr)
    obtain ⟨a1, b1⟩ := dp_of rx p1
    obtain ⟨a2, _, b2⟩ := dps_of rs p2
    refine op_inT hu pins s σ H x _ v u QV I rv ru ⟨pd d, pds ds, a1, .tup sq a2, b1, b2, ?_⟩
    simp only [Bool.false_eq_true, if_false, if_true]
    rw [any_pds]; exact hc.bl hH q
  | rol ds =>
    obtain ⟨a, vs, ey, sq, rs⟩ := ry
    exact lst ey sq.sq rs hr
  | ref a =>
    have ey : y = .ref a := ry
    have hr : inO d (fun b => Q (.bool b) h) (h a) := hr
    cases q : h a with
    | none => rw [q] at hr; exact hr.elim
    | some o =>
      rw [q] at hr
      cases o with
      | lst ds =>
        obtain ⟨vs, eH, rs⟩ := hH a _ q
        exact lst ey (SqL.of eH) rs hr
      | dic kvs =>
        subst ey
        cases ru
        exact dd_in (by omega) I (hH a _ q) rx rv hr.1 fun s' I' => ⟨.bl _, H, I', rfl, hc.bl hH hr.2⟩
      | ins _ _ => exact hr.elim
  | _ => exact hr.elim
theorem od_notIn (hu : X.A.units + 65 < cLine) : OpR X (compareOp .NotIn) (lowR X.kw ninD) := by
  intro pins s σ H x y v u QV I rv ru ⟨d, e, h, Q, rx, ry, hH, hr, hc⟩
  have hr : inAny d e h fun b => Q (.bool (!b)) h := hr
  have lst : ∀ {a : Addr} {vs : List V} {ds : List D}, y = .ref a → SqL X.K H a vs → RepVs X.kw H ds vs → inSeq d (fun b => Q (.bool (!b)) h) ds → wpAny (model X.prog X.w) X.A (compareOp .NotIn v u) (EP X pins σ QV) X.xe s := by
    rintro a vs ds rfl sq rs ⟨p1, p2, q⟩
    obtain ⟨a1, b1⟩ := dp_of rx p1
    obtain ⟨a2, b2, _⟩ := dps_of rs p2
    refine op_notInD hu pins s σ H x _ v u QV I rv ru ⟨pd d, pds ds, a1, .lst sq a2, b1, b2, ?_⟩
    rw [any_pds]; exact hc.bl hH q
  cases e with
  | str z =>
    cases d <;> first | (exact hr.elim) | skip
    exact op_notIn_str pins s σ H x y v u QV I rv ru ⟨_, _, rx.1, ry.1, hc.bl hH hr⟩
  | tup ds =>
    obtain ⟨a, vs, rfl, sq, rs⟩ := ry
    obtain ⟨p1, p2, q⟩ := (show inSeq d (fun b => Q (.bool (!b)) h) ds from hr)
    obtain ⟨a1, b1⟩ := dp_of rx p1
    obtain ⟨a2, _, b2⟩ := dps_of rs p2
    refine op_notInT hu pins s σ H x _ v u QV I rv ru ⟨pd d, pds ds, a1, .tup sq a2, b1, b2, ?_⟩
    simp only [Bool.false_eq_true, if_false, if_true]
    rw [any_pds]; exact hc.bl hH q
  | rol ds =>
    obtain ⟨a, vs, ey, sq, rs⟩ := ry
    exact lst ey sq.sq rs hr
  | ref a =>
    have ey : y = .ref a := ry
    have hr : inO d (fun b => Q (.bool (!b)) h) (h a) := hr
    cases q : h a with
    | none => rw [q] at hr; exact hr.elim
    | some o =>
      rw [q] at hr
      cases o with
      | lst ds =>
        obtain ⟨vs, eH, rs⟩ := hH a _ q
        exact lst ey (SqL.of eH) rs hr
      | dic kvs =>
        subst ey
        cases ru
        exact dd_notIn (by omega) I (hH a _ q) rx rv hr.1 fun s' I' => ⟨.bl _, H, I', rfl, hc.bl hH hr.2⟩
      | ins _ _ => exact hr.elim
  | _ => exact hr.elim
/-! ### is None -/
def isNone : D → Bool
  | .none => true
  | _ => false
theorem none_rep {K : KW} {H : Hp} {d : D} {v : V} (r : RepV K H d v) : decide (v = .non) = isNone d := by
  cases d with
  | none => cases (show v = _ from r); rfl
  | bool _ => cases (show v = _ from r); rfl
  | int _ => cases (show v = _ from r); rfl
  | ref _ => cases (show v = _ from r); rfl
  | ty _ => cases (show v = _ from r); rfl
  | str _ => obtain ⟨rfl, _⟩ := r; rfl
  | tup _ => obtain ⟨a, vs, rfl, _⟩ := r; rfl
  | rol _ => obtain ⟨a, vs, rfl, _⟩ := r; rfl
def isB (x : D) (b : Bool) (h : MH) (Q : KD) : Prop := match x with
  | .bool a => Q (.bool (decide (a = b))) h
  | _ => False
def isD : R1 := fun x y h Q => match y with
  | .none => Q (.bool (isNone x)) h
  | .bool b => isB x b h Q
  | _ => False
def nisD : R1 := fun x y h Q => match y with
  | .none => Q (.bool (!isNone x)) h
  | _ => False
theorem od_is : OpR X (compareOp .Is) (lowR X.kw isD) := opR_of fun x y H QV ⟨d, e, h, Q, rx, ry, hH, hr, hc⟩ => by
  cases e <;> try exact hr.elim
  · cases (show y = _ from ry)
    refine ⟨_, op_isN, rfl, ?_⟩
    rw [none_rep rx]
    exact hc.bl hH hr
  · cases (show y = _ from ry)
    cases d <;> try exact hr.elim
    cases (show x = _ from rx)
    exact ⟨_, op_isBl, _, _, rfl, rfl, hc.bl hH hr⟩
theorem od_isnot : OpR X (compareOp .IsNot) (lowR X.kw nisD) := opR_of fun x y H QV ⟨d, e, h, Q, rx, ry, hH, hr, hc⟩ => by
  cases e <;> try exact hr.elim
  cases (show y = _ from ry)
  refine ⟨_, op_notN, rfl, ?_⟩
  rw [none_rep rx]
  exact hc.bl hH hr
end
/-! ### subscripts -/
def atD (h : MH) (i : Int) (Q : KD) : Option (List D) → Prop
  | some ds => match atI ds i with
    | some d => Q d h
    | none => False
  | none => False
def atS (z : Str) (i : Int) (h : MH) (Q : KD) : Prop := match atI z.cps.toList i with
  | some c => Q (.str ⟨#[c]⟩) h
  | none => False
def dgetK (h : MH) (Q : KD) : Option D → Prop
  | some v => Q v h
  | none => False
def ixDic (kvs : Kvs) (y : D) (h : MH) (Q : KD) : Prop := fit kvs y = true ∧ dgetK h Q (dget kvs y)
def ixSeq (ds : List D) (y : D) (h : MH) (Q : KD) : Prop := match y with
  | .int i => atD h i Q (some ds)
  | _ => False
def ixStr (z : Str) (y : D) (h : MH) (Q : KD) : Prop := match y with
  | .int i => atS z i h Q
  | _ => False
def ixO (y : D) (h : MH) (Q : KD) : Option MO → Prop
  | some (.lst ds) => ixSeq ds y h Q
  | some (.dic kvs) => ixDic kvs y h Q
  | _ => False
def ixD : R1 := fun x y h Q => match x with
  | .str z => ixStr z y h Q
  | .tup ds => ixSeq ds y h Q
  | .rol ds => ixSeq ds y h Q
  | .ref a => ixO y h Q (h a)
  | _ => False
theorem atI_rep {α β : Type} {R : α → β → Prop} {xs : List α} {ys : List β} (p : Paired R xs ys) {i : Int} {x : α} (e : atI xs i = some x) : ∃ y, atI ys i = some y ∧ R x y := by
  unfold atI at e ⊢
  rw [← p.length]
  cases q : ixN xs.length i with
  | none => rw [q] at e; cases e
  | some j =>
    rw [q] at e
    exact P2.get p e
section
variable {X : Cx}
theorem ixR_of {r' : R2} (h : ∀ x y H Q, r' x y H Q → ∃ r, IxR X r ∧ r x y H Q) : IxR X r' := fun value slice pins s σ H x y v u Q I rx ry hr hs =>
  let ⟨r, ho, hq⟩ := h x y H Q hr
  ho value slice pins s σ H x y v u Q I rx ry hq hs
theorem xd_ix (hu : X.A.units + 64 < cLine) : IxR X (lowR X.kw ixD) := by
  intro value slice pins s σ H x y v u QV I rv ru ⟨d, e, h, Q, rx, ry, hH, hr, hc⟩ hs
  have sq : ∀ {a : Addr} {vs : List V} {ds : List D}, x = .ref a → (SqL X.K H a vs ∨ SqT X.K H a vs) → RepVs X.kw H ds vs → ixSeq ds e h Q → wpAny (model X.prog X.w) X.A (subscriptTail value slice v u) (EP X pins σ QV) X.xe s := by
    rintro a vs ds rfl hq rs hr
    cases e <;> first | (exact hr.elim) | skip
    rename_i i _
    cases (show y = _ from ry)
    have hr : atD h i Q (some ds) := hr
    unfold atD at hr
    simp only at hr
    cases e : atI ds i with
    | none => rw [e] at hr; exact hr.elim
    | some z =>
      rw [e] at hr
      obtain ⟨w, hw, rw'⟩ := atI_rep rs.pair e
      rcases hq with hq | hq
      · exact ix_list value slice pins s σ H _ _ v u QV I rv ru ⟨a, vs, i, w, rfl, rfl, hq, hw, hc.val hH rw' hr⟩ hs
      · exact ix_tup value slice pins s σ H _ _ v u QV I rv ru ⟨a, vs, i, w, rfl, rfl, hq, hw, hc.val hH rw' hr⟩ hs
  cases d with
  | str z =>
    obtain ⟨rfl, ok⟩ := rx
    have hr : ixStr z e h Q := hr
    cases e <;> first | (exact hr.elim) | skip
    rename_i i _
    cases (show y = _ from ry)
    have hr : atS z i h Q := hr
    unfold atS at hr
    cases e : atI z.cps.toList i with
    | none => rw [e] at hr; exact hr.elim
    | some c =>
      rw [e] at hr
      exact ix_str value slice pins s σ H _ _ v u QV I rv ru ⟨z, i, c, rfl, rfl, ok.1, e, hc.str hH (ok.one e) hr⟩ hs
  | tup ds => obtain ⟨a, vs, ex, st, rs⟩ := rx; exact sq ex (.inr st) rs hr
  | rol ds => obtain ⟨a, vs, ex, st, rs⟩ := rx; exact sq ex (.inl st.sq) rs hr
  | ref a =>
    have ex : x = .ref a := rx
    have hr : ixO e h Q (h a) := hr
    cases q : h a with
    | none => rw [q] at hr; exact hr.elim
    | some o =>
      rw [q] at hr
      cases o with
      | lst ds =>
        obtain ⟨vs, eH, rs⟩ := hH a _ q
        exact sq ex (.inl (SqL.of eH)) rs hr
      | dic kvs =>
        subst ex
        cases rv
        obtain ⟨ft, hr⟩ := (show ixDic kvs e h Q from hr)
        cases g : dget kvs e with
        | none => rw [g] at hr; exact hr.elim
        | some f =>
          rw [g] at hr
          exact tail_any (dic_type I (hH a _ q)) PySem.F.slot_dict_getitem.lookup (dd_getItem hu I (hH a _ q) ry ru ft g fun w' s' I' ⟨z, rz, rf⟩ => ⟨z, H, I', rz, hc.val hH rf hr⟩) hs
      | ins _ _ => exact hr.elim
  | _ => exact hr.elim
theorem de_ix (hu : X.A.units + 64 < cLine) {a b : Expr} {ta tb : E1} {pos : Pos} (ha : DE X a ta) (hb : DE X b tb) (hs : PlainIx b) : DE X (.Subscript a b pos) (dOp ixD ta tb) := weakE (pe_ix (xd_ix hu) ha hb hs) fun _ _ _ h => low_op h
/-! ### slices -/
abbrev O1 := Sl → MH → (Option Int → MH → Prop) → Prop
def ClO (K : KW) (h : MH) (H : Hp) (Q : Option Int → MH → Prop) (QV : Option Int → Hp → Prop) : Prop := ∀ b h' H', Stp h H h' H' → RepH K h' H' → Q b h' → QV b H'
def lowO (K : KW) (t : O1) : TO := fun σV H QV => ∃ σ h Q, RepE K H σ σV ∧ RepH K h H ∧ t σ h Q ∧ ClO K h H Q QV
abbrev DO (X : Cx) (e : Option Expr) (t : O1) : Prop := PO X e (lowO X.kw t)
def dNoPart : O1 := fun _ h Q => Q none h
def dPart (t : E1) : O1 := fun σ h Q => t σ h fun x h1 => match x with | .int i => Q (some i) h1 | _ => False
theorem weakO {e : Option Expr} {t t' : TO} (p : PO X e t) (w : ∀ σ H Q, t' σ H Q → t σ H Q) : PO X e t' := ⟨fun pins s σ H Q I h => p.run pins s σ H Q I (w σ H Q h)⟩
theorem do_none : DO X none dNoPart := weakO po_none fun σV H QV ⟨σ, h, Q, hE, hH, ht, hc⟩ => hc none h H Stp.refl hH ht
theorem do_some {e : Expr} {t : E1} (p : DE X e t) : DO X (some e) (dPart t) := weakO (po_some p) fun σV H QV ⟨σ, h, Q, hE, hH, ht, hc⟩ =>
  ⟨σ, h, _, hE, hH, ht, fun d h' v H' s' r' rv q => by
    cases d with
    | int i => exact ⟨i, rv, hc (some i) h' H' s' r' q⟩
    | _ => exact q.elim⟩
def cutD (ds : List D) (lo hi : Option Int) : List D := (ds.drop (HT.sIx ds.length 0 lo)).take (HT.sIx ds.length ds.length hi - HT.sIx ds.length 0 lo)
def slL (h : MH) (lo hi : Option Int) (Q : KD) : Option MO → Prop
  | some (.lst ds) => ∀ l, h l = none → Q (.ref l) (up h l (.lst (cutD ds lo hi)))
  | _ => False
def slD (x : D) (lo hi : Option Int) (h : MH) (Q : KD) : Prop := match x with
  | .str z => Q (.str (cutS z lo hi)) h
  | .tup ds => Q (.tup (cutD ds lo hi)) h
  | .rol ds => ∀ l, h l = none → Q (.ref l) (up h l (.lst (cutD ds lo hi)))
  | .ref a => slL h lo hi Q (h a)
  | _ => False
def dSl (t : E1) (tl tu : O1) : E1 := fun σ h Q => t σ h fun x h1 => tl σ h1 fun lo h2 => tu σ h2 fun hi h3 => slD x lo hi h3 Q
def lowSl (K : KW) (r : D → Option Int → Option Int → MH → KD → Prop) : V → Option Int → Option Int → Hp → VK → Prop := fun x lo hi H QV => ∃ d h Q, RepV K H d x ∧ RepH K h H ∧ r d lo hi h Q ∧ Cl K h H Q QV
theorem slR_of {r' : V → Option Int → Option Int → Hp → VK → Prop} (h : ∀ x lo hi H Q, r' x lo hi H Q → ∃ r, SlR X r ∧ r x lo hi H Q) : SlR X r' := fun pins s σ H x v vl vu lo hi sl Q I rx hs pl pu hr =>
  let ⟨r, ho, hq⟩ := h x lo hi H Q hr
  ho pins s σ H x v vl vu lo hi sl Q I rx hs pl pu hq
theorem cut_rep {K : KW} {H : Hp} {ds : List D} {vs : List V} (r : RepVs K H ds vs) (lo hi : Option Int) : RepVs K H (cutD ds lo hi) (cutV vs lo hi) := by
  unfold cutD cutV
  rw [r.length]
  exact .of (P2.take _ (P2.drop _ r.pair))
theorem cut_whole {α : Type} (vs : List α) (i j : Nat) (h : i = 0 ∧ j = vs.length) : (vs.drop i).take (j - i) = vs := by
  obtain ⟨rfl, rfl⟩ := h
  simp
theorem xd_sl : SlR X (lowSl X.kw slD) := slR_of fun x lo hi H QV ⟨d, h, Q, rx, hH, hr, hc⟩ => by
  cases d with
  | str z =>
    obtain ⟨rfl, ok⟩ := rx
    exact ⟨_, sl_str, z, rfl, ok.1, hc.str hH (ok.cut lo hi) hr⟩
  | tup ds =>
    obtain ⟨a, vs, rfl, s, r⟩ := rx
    have rc := cut_rep r lo hi
    refine ⟨_, sl_tupA, a, vs, rfl, s, fun z => ?_, fun _ l n => hc.tup hH n rc hr⟩
    have e : cutD ds lo hi = ds := by
      unfold cutD
      rw [r.length]
      exact cut_whole ds _ _ ⟨z.1, by rw [r.length]; exact z.2⟩
    have hr : Q (.tup (cutD ds lo hi)) h := hr
    rw [e] at hr
    exact hc.val hH (d := .tup ds) ⟨a, vs, rfl, s, r⟩ hr
  | rol ds =>
    obtain ⟨a, vs, rfl, s, r⟩ := rx
    exact ⟨_, sl_list, a, vs, rfl, s.sq, fun l n => hc.new hH n (cut_rep r lo hi) (hr l (hH.nofresh n))⟩
  | ref a =>
    cases (show x = _ from rx)
    have hr : slL h lo hi Q (h a) := hr
    cases q : h a with
    | none => rw [q] at hr; exact hr.elim
    | some o =>
      cases o with
      | lst ds =>
        rw [q] at hr
        obtain ⟨vs, e, r⟩ := hH _ _ q
        exact ⟨_, sl_list, a, vs, rfl, SqL.of e, fun l n => hc.new hH n (cut_rep r lo hi) (hr l (hH.nofresh n))⟩
      | dic _ => rw [q] at hr; exact hr.elim
      | ins _ _ => rw [q] at hr; exact hr.elim
  | _ => exact hr.elim
theorem de_slice {e : Expr} {lo hi : Option Expr} {te : E1} {tl tu : O1} {p2 pos : Pos} (he : DE X e te) (hl : DO X lo tl) (hu : DO X hi tu) : DE X (.Subscript e (.Slice lo hi none p2) pos) (dSl te tl tu) :=
  weakE (pe_slice xd_sl he hl hu) fun σV H QV ⟨σ, h, Q, hE, hH, ht, hc⟩ => by
    refine ⟨σ, h, _, hE, hH, ht, fun x h1 v1 H1 s1 hH1 r1 q1 => ?_⟩
    refine ⟨σ, h1, _, hE.mono (Stp.mo hH s1), hH1, q1, fun l h2 H2 s2 hH2 q2 => ?_⟩
    refine ⟨σ, h2, _, (hE.mono (Stp.mo hH s1)).mono (Stp.mo hH1 s2), hH2, q2, fun u h3 H3 s3 hH3 q3 => ?_⟩
    exact ⟨x, h3, Q, RepV.mono ((Stp.mo hH1 s2).trans (Stp.mo hH2 s3)) _ r1, hH3, q3, hc.step (s1.trans (s2.trans s3))⟩
/-! ### one-place operators -/
def negD (x : D) (h : MH) (Q : KD) : Prop := match x with
  | .int i => Q (.int (-i)) h
  | _ => False
def dUn (r : D → MH → KD → Prop) (t : E1) : E1 := fun σ h Q => t σ h fun x h1 => r x h1 Q
theorem de_neg {a : Expr} {ta : E1} {pos : Pos} (ha : DE X a ta) : DE X (.UnaryOp .USub a pos) (dUn negD ta) := weakE (pe_un un_neg ha) fun σV H QV ⟨σ, h, Q, hE, hH, ht, hc⟩ =>
  ⟨σ, h, _, hE, hH, ht, fun d h' v H' s' r' rv q => by
    cases d with
    | int i => exact ⟨i, rv, (hc.step s').int r' q⟩
    | _ => exact q.elim⟩
/-! ### tests -/
def asB (Q : Bool → MH → Prop) : KD := fun x h => match x with | .bool k => Q k h | _ => False
def dTest (t : E1) : T1 := fun σ h Q => t σ h (asB Q)
theorem asB_cl {K : KW} {h : MH} {H : Hp} {Q : Bool → MH → Prop} {QV : Bool → Hp → Prop} (hc : ClB K h H Q QV) : Cl K h H (asB Q) fun v H' => ∃ k, v = .bl k ∧ QV k H' := fun d h' v H' s' r' rv q => by
  cases d with
  | bool k => exact ⟨k, rv, hc k h' H' s' r' q⟩
  | _ => exact q.elim
theorem dt_cmpR {op : CmpOp} {r : R1} {a b : Expr} {ta tb : E1} {pos : Pos} (ho : OpR X (compareOp op) (lowR X.kw r)) (ha : DE X a ta) (hb : DE X b tb) (hm : behindInMarks op b = false) : DT X (.Compare a [op] [b] pos) (dTest (dOp r ta tb)) :=
  weakT (pt_cmpR ho ha hb hm) fun σV H QV ⟨σ, h, Q, hE, hH, ht, hc⟩ => low_op ⟨σ, h, asB Q, hE, hH, ht, asB_cl hc⟩
def truL (h : MH) (Q : Bool → MH → Prop) : Option (List D) → Prop
  | some ds => Q (!ds.isEmpty) h
  | none => False
def truD (x : D) (h : MH) (Q : Bool → MH → Prop) : Prop := match x with
  | .none => Q false h
  | .bool b => Q b h
  | .int i => Q (i != 0) h
  | .str z => Q (z.length != 0) h
  | x => truL h Q (seqOf h x)
def dTru (t : E1) : T1 := fun σ h Q => t σ h fun x h1 => truD x h1 Q
theorem isEmpty_rep {α β : Type} {R : α → β → Prop} {xs : List α} {ys : List β} (p : Paired R xs ys) : (!ys.isEmpty) = !xs.isEmpty := by cases p <;> rfl
theorem dt_tru {a : Expr} {ta : E1} (ha : DE X a ta) (he : ∀ whole, isTrue a X.env whole = (do let v ← whole; standAt a.pos; holding [v] (truthy v)) := by intro _; rfl) : DT X a (dTru ta) :=
  weakT (pt_truth ha he) fun σV H QV ⟨σ, h, Q, hE, hH, ht, hc⟩ => ⟨σ, h, _, hE, hH, ht, fun d h' v H' s' hH' rv q => by
    have fin : ∀ k, Q k h' → QV k H' := fun k z => hc k h' H' s' hH' z
    have sq : truL h' Q (seqOf h' d) → ∃ k, TruV X.K v H' k ∧ QV k H' := fun q => by
      cases e : seqOf h' d with
      | none => rw [e] at q; exact q.elim
      | some ds =>
        rw [e] at q
        obtain ⟨a, vs, rfl, r, hs⟩ := seq_rep hH' rv e
        refine ⟨_, ?_, fin _ q⟩
        rcases hs with hs | hs
        · exact .inl ⟨vs, hs, (isEmpty_rep r.pair).symm⟩
        · exact .inr (.inl ⟨vs, hs, (isEmpty_rep r.pair).symm⟩)
    cases d with
    | none => cases (show v = _ from rv); exact ⟨_, rfl, fin _ q⟩
    | bool b => cases (show v = _ from rv); exact ⟨_, rfl, fin _ q⟩
    | int b => cases (show v = _ from rv); exact ⟨_, rfl, fin _ q⟩
    | str z =>
      obtain ⟨rfl, ok⟩ := rv
      refine ⟨_, ⟨ok.1, rfl⟩, ?_⟩
      have e : (((z.length : Nat) : Int) != 0) = (z.length != 0) := by
        by_cases y : z.length = 0
        · rw [y]; rfl
        · rw [bne_iff_ne.mpr y, bne_iff_ne.mpr (by omega)]
      rw [e]
      exact fin _ q
    | _ => exact sq q⟩
def dAndT (t u : T1) : T1 := fun σ h Q => t σ h fun c h1 => if c = true then u σ h1 Q else Q false h1
def dOrT (t u : T1) : T1 := fun σ h Q => t σ h fun c h1 => if c = true then Q true h1 else u σ h1 Q
def dNotT (t : T1) : T1 := fun σ h Q => t σ h fun c h1 => Q (!c) h1
abbrev DW (X : Cx) (e : Expr) (t : T1) : Prop := PW X e (lowT X.kw t)
theorem weakW {e : Expr} {t t' : TT} (p : PW X e t) (w : ∀ σ H Q, t' σ H Q → t σ H Q) : PW X e t' := ⟨fun wh pins s σ H Q I h => p.run wh pins s σ H Q I (w σ H Q h)⟩
theorem dw_and1 {a : Expr} {ta : T1} {pos : Pos} (ha : DT X a ta) : DW X (.BoolOp .And [a] pos) ta := pw_and1 ha
theorem dw_or1 {a : Expr} {ta : T1} {pos : Pos} (ha : DT X a ta) : DW X (.BoolOp .Or [a] pos) ta := pw_or1 ha
theorem dw_and {a b : Expr} {rest : List Expr} {ta tb : T1} {pos : Pos} (ha : DT X a ta) (hb : DW X (.BoolOp .And (b :: rest) pos) tb) : DW X (.BoolOp .And (a :: b :: rest) pos) (dAndT ta tb) :=
  weakW (pw_and ha hb) fun σV H QV ⟨σ, h, Q, hE, hH, ht, hc⟩ => ⟨σ, h, _, hE, hH, ht, fun c h1 H1 s1 hH1 q => by
    cases c with
    | true => rw [if_pos rfl] at q ⊢; exact ⟨σ, h1, Q, hE.mono (Stp.mo hH s1), hH1, q, hc.step s1⟩
    | false => rw [if_neg Bool.false_ne_true] at q ⊢; exact hc _ _ _ s1 hH1 q⟩
theorem dw_or {a b : Expr} {rest : List Expr} {ta tb : T1} {pos : Pos} (ha : DT X a ta) (hb : DW X (.BoolOp .Or (b :: rest) pos) tb) : DW X (.BoolOp .Or (a :: b :: rest) pos) (dOrT ta tb) :=
  weakW (pw_or ha hb) fun σV H QV ⟨σ, h, Q, hE, hH, ht, hc⟩ => ⟨σ, h, _, hE, hH, ht, fun c h1 H1 s1 hH1 q => by
    cases c with
    | false => rw [if_neg Bool.false_ne_true] at q ⊢; exact ⟨σ, h1, Q, hE.mono (Stp.mo hH s1), hH1, q, hc.step s1⟩
    | true => rw [if_pos rfl] at q ⊢; exact hc _ _ _ s1 hH1 q⟩
theorem dt_w {e : Expr} {t : T1} (p : DW X e t) : DT X e t := PW.pt p
theorem dt_not {a : Expr} {ta : T1} {pos : Pos} (ha : DT X a ta) : DT X (.UnaryOp .Not a pos) (dNotT ta) :=
  weakT (pt_not ha) fun σV H QV ⟨σ, h, Q, hE, hH, ht, hc⟩ => ⟨σ, h, _, hE, hH, ht, fun c h1 H1 s1 hH1 q => hc _ _ _ s1 hH1 q⟩
/-! .. as values -/
def dAndV (t u : E1) : E1 := fun σ h Q => t σ h (asB fun c h1 => if c = true then u σ h1 Q else Q (.bool false) h1)
def dOrV (t u : E1) : E1 := fun σ h Q => t σ h (asB fun c h1 => if c = true then Q (.bool true) h1 else u σ h1 Q)
def dNotV (t : E1) : E1 := fun σ h Q => t σ h (asB fun c h1 => Q (.bool (!c)) h1)
theorem de_one {op} {a : Expr} {t : E1} {pos : Pos} (h : DE X a t) : DE X (.BoolOp op [a] pos) t := pe_one h
theorem de_and {a b : Expr} {rest : List Expr} {ta tb : E1} {pos : Pos} (ha : DE X a ta) (hb : DE X (.BoolOp .And (b :: rest) pos) tb) : DE X (.BoolOp .And (a :: b :: rest) pos) (dAndV ta tb) :=
  weakE (pe_and ha hb) fun σV H QV ⟨σ, h, Q, hE, hH, ht, hc⟩ => ⟨σ, h, _, hE, hH, ht, fun d h1 v H1 s1 hH1 rv q => by
    cases d with
    | bool c =>
      refine ⟨c, rv, ?_⟩
      have q : if c = true then tb σ h1 Q else Q (.bool false) h1 := q
      cases c with
      | true => rw [if_pos rfl] at q ⊢; exact ⟨σ, h1, Q, hE.mono (Stp.mo hH s1), hH1, q, hc.step s1⟩
      | false => rw [if_neg Bool.false_ne_true] at q ⊢; exact (hc.step s1).bl hH1 q
    | _ => exact q.elim⟩
theorem de_or {a b : Expr} {rest : List Expr} {ta tb : E1} {pos : Pos} (ha : DE X a ta) (hb : DE X (.BoolOp .Or (b :: rest) pos) tb) : DE X (.BoolOp .Or (a :: b :: rest) pos) (dOrV ta tb) :=
  weakE (pe_or ha hb) fun σV H QV ⟨σ, h, Q, hE, hH, ht, hc⟩ => ⟨σ, h, _, hE, hH, ht, fun d h1 v H1 s1 hH1 rv q => by
    cases d with
    | bool c =>
      refine ⟨c, rv, ?_⟩
      have q : if c = true then Q (.bool true) h1 else tb σ h1 Q := q
      cases c with
      | false => rw [if_neg Bool.false_ne_true] at q ⊢; exact ⟨σ, h1, Q, hE.mono (Stp.mo hH s1), hH1, q, hc.step s1⟩
      | true => rw [if_pos rfl] at q ⊢; exact (hc.step s1).bl hH1 q
    | _ => exact q.elim⟩
theorem de_not {a : Expr} {ta : E1} {pos : Pos} (ha : DE X a ta) : DE X (.UnaryOp .Not a pos) (dNotV ta) :=
  weakE (pe_not ha) fun σV H QV ⟨σ, h, Q, hE, hH, ht, hc⟩ => ⟨σ, h, _, hE, hH, ht, fun d h1 v H1 s1 hH1 rv q => by
    cases d with
    | bool c => exact ⟨c, rv, (hc.step s1).bl hH1 q⟩
    | _ => exact q.elim⟩
def dIf (t : T1) (ta tb : E1) : E1 := fun σ h Q => t σ h fun c h1 => if c = true then ta σ h1 Q else tb σ h1 Q
theorem de_ifExp {c a b : Expr} {tc : T1} {ta tb : E1} {pos : Pos} (hc : DT X c tc) (ha : DE X a ta) (hb : DE X b tb) : DE X (.IfExp c a b pos) (dIf tc ta tb) :=
  weakE (pe_ifExp hc ha hb) fun σV H QV ⟨σ, h, Q, hE, hH, ht, hc⟩ => ⟨σ, h, _, hE, hH, ht, fun c h1 H1 s1 hH1 q => by
    cases c with
    | true => rw [if_pos rfl] at q ⊢; exact ⟨σ, h1, Q, hE.mono (Stp.mo hH s1), hH1, q, hc.step s1⟩
    | false => rw [if_neg Bool.false_ne_true] at q ⊢; exact ⟨σ, h1, Q, hE.mono (Stp.mo hH s1), hH1, q, hc.step s1⟩⟩
/-! a < b < c -/
def dChain (r r' : R1) (ta tb tc : E1) : E1 := fun σ h Q => ta σ h fun x h1 => tb σ h1 fun y h2 => r x y h2 (asB fun k h3 => if k = true then tc σ h3 fun z h4 => r' y z h4 Q else Q (.bool false) h3)
end
end DL
namespace DL
open PySem PySem.Spec PyProof.Rows L2
/-! ### statements -/
structure Nd where
  nx : Sl → MH → Prop
  rt : KD
  bk : Sl → MH → Prop := fun _ _ => False
  ct : Sl → MH → Prop := fun _ _ => False
abbrev S1 := Nd → Sl → MH → Prop
def ClN (K : KW) (h : MH) (H : Hp) (n : Sl → MH → Prop) (nV : L2.St → Hp → Prop) : Prop := ∀ σ' h' σV' H', Stp h H h' H' → RepE K H' σ' σV' → RepH K h' H' → n σ' h' → nV σV' H'
structure ClS (K : KW) (h : MH) (H : Hp) (D : Nd) (DV : Ends) : Prop where
  nx : ClN K h H D.nx DV.nx
  rt : Cl K h H D.rt DV.rt
  bk : ClN K h H D.bk DV.bk
  ct : ClN K h H D.ct DV.ct
theorem ClN.step {K : KW} {h h1 : MH} {H H1 : Hp} {n : Sl → MH → Prop} {nV : L2.St → Hp → Prop} (s : Stp h H h1 H1) (c : ClN K h H n nV) : ClN K h1 H1 n nV := fun a b d e s' x y z => c a b d e (s.trans s') x y z
theorem ClS.step {K : KW} {h h1 : MH} {H H1 : Hp} {D : Nd} {DV : Ends} (s : Stp h H h1 H1) (c : ClS K h H D DV) : ClS K h1 H1 D DV := ⟨c.nx.step s, c.rt.step s, c.bk.step s, c.ct.step s⟩
def lowS (K : KW) (t : S1) : TS := fun DV σV H => ∃ D σ h, RepE K H σ σV ∧ RepH K h H ∧ t D σ h ∧ ClS K h H D DV
theorem weakS {X : Cx} {e : Stmt} {t t' : TS} (p : PS X e t) (w : ∀ D σ H, t' D σ H → t D σ H) : PS X e t' := ⟨fun pins s σ H D I h => p.run pins s σ H D I (w D σ H h)⟩
theorem weakSs {X : Cx} {e : List Stmt} {t t' : TS} (p : PSs X e t) (w : ∀ D σ H, t' D σ H → t D σ H) : PSs X e t' := ⟨fun pins s σ H D I h => p.run pins s σ H D I (w D σ H h)⟩
abbrev DS (X : Cx) (st : Stmt) (t : S1) : Prop := PS X st (lowS X.kw t)
abbrev DSs (X : Cx) (st : List Stmt) (t : S1) : Prop := PSs X st (lowS X.kw t)
section
variable {X : Cx}
def dNext : S1 := fun D σ h => D.nx σ h
def dSeq (t u : S1) : S1 := fun D σ h => t { D with nx := u D } σ h
theorem dss_nil : DSs X [] dNext := weakSs pss_nil fun DV σV H ⟨D, σ, h, hE, hH, ht, hc⟩ => hc.nx σ h σV H Stp.refl hE hH ht
theorem dss_one {st : Stmt} {t : S1} (a : DS X st t) : DSs X [st] t := pss_one a
theorem dss_cons {st : Stmt} {rest : List Stmt} {t u : S1} (a : DS X st t) (b : DSs X rest u) : DSs X (st :: rest) (dSeq t u) := weakSs (pss_cons a b) fun DV σV H ⟨D, σ, h, hE, hH, ht, hc⟩ =>
  ⟨{ D with nx := u D }, σ, h, hE, hH, ht, ⟨fun σ' h' σV' H' s' e' r' q => ⟨D, σ', h', e', r', q, hc.step s'⟩, hc.rt, hc.bk, hc.ct⟩⟩
def dBrk : S1 := fun D σ h => D.bk σ h
def dCnt : S1 := fun D σ h => D.ct σ h
theorem ds_pass {pos : Pos} : DS X (.Pass pos) dNext := weakS ps_pass fun DV σV H ⟨D, σ, h, hE, hH, ht, hc⟩ => hc.nx σ h σV H Stp.refl hE hH ht
theorem ds_break {pos : Pos} : DS X (.Break pos) dBrk := weakS ps_break fun DV σV H ⟨D, σ, h, hE, hH, ht, hc⟩ => hc.bk σ h σV H Stp.refl hE hH ht
theorem ds_continue {pos : Pos} : DS X (.Continue pos) dCnt := weakS ps_continue fun DV σV H ⟨D, σ, h, hE, hH, ht, hc⟩ => hc.ct σ h σV H Stp.refl hE hH ht
theorem ds_doc {x j pos pos'} : DS X (.Expr (.Constant (.str x) j pos) pos') dNext := weakS ps_doc fun DV σV H ⟨D, σ, h, hE, hH, ht, hc⟩ => hc.nx σ h σV H Stp.refl hE hH ht
def dDrop (t : E1) : S1 := fun D σ h => t σ h fun _ h1 => D.nx σ h1
theorem ds_expr {e : Expr} {t : E1} {pos : Pos} (p : DE X e t) (hs : swapsWith e none pos.line X.env = pure false := by rfl) : DS X (.Expr e pos) (dDrop t) := weakS (ps_expr p hs) fun DV σV H ⟨D, σ, h, hE, hH, ht, hc⟩ =>
  ⟨σ, h, _, hE, hH, ht, fun d h' v H' s' r' rv q => hc.nx σ h' σV H' s' (hE.mono (Stp.mo hH s')) r' q⟩
def dRet (t : E1) : S1 := fun D σ h => t σ h D.rt
theorem ds_ret {e : Expr} {t : E1} {pos : Pos} (p : DE X e t) : DS X (.Return (some e) pos) (dRet t) := weakS (ps_ret p) fun DV σV H ⟨D, σ, h, hE, hH, ht, hc⟩ => ⟨σ, h, _, hE, hH, ht, hc.rt⟩
def dRetN : S1 := fun D _ h => D.rt .none h
theorem ds_retN {pos : Pos} : DS X (.Return none pos) dRetN := weakS ps_retN fun DV σV H ⟨D, σ, h, hE, hH, ht, hc⟩ => hc.rt.non hH ht
def dIfS (c : T1) (t u : S1) : S1 := fun D σ h => c σ h fun b h1 => if b = true then t D σ h1 else u D σ h1
theorem ds_if {c : Expr} {a b : List Stmt} {tc : T1} {t u : S1} {pos : Pos} (hc : DT X c tc) (ha : DSs X a t) (hb : DSs X b u) : DS X (.If c a b pos) (dIfS tc t u) := weakS (ps_if hc ha hb) fun DV σV H ⟨D, σ, h, hE, hH, ht, hc⟩ =>
  ⟨σ, h, _, hE, hH, ht, fun b h' H' s' r' q => by
    cases b with
    | true => rw [if_pos rfl] at q ⊢; exact ⟨D, σ, h', hE.mono (Stp.mo hH s'), r', q, hc.step s'⟩
    | false => rw [if_neg Bool.false_ne_true] at q ⊢; exact ⟨D, σ, h', hE.mono (Stp.mo hH s'), r', q, hc.step s'⟩⟩
/-! ### targets; P: what the stores leave alone -/
structure Pr where
  rel : L2.St → L2.St → Prop
  re : ∀ a, rel a a
  tr : ∀ a b c, rel a b → rel b c → rel a c
def P0 : Pr := ⟨fun _ _ => True, fun _ => trivial, fun _ _ _ _ _ => trivial⟩
def Pw (vs : List Nat) : Pr := ⟨fun a b => wipe b vs = wipe a vs, fun _ => rfl, fun a b c h k => k.trans h⟩
abbrev G1 := D → Sl → MH → (Sl → MH → Prop) → Prop
abbrev Gs1 := List D → Sl → MH → (Sl → MH → Prop) → Prop
def ClG (K : KW) (P : Pr) (σV : L2.St) (h : MH) (H : Hp) (n : Sl → MH → Prop) (nV : L2.St → Hp → Prop) : Prop := ∀ σ' h' σV' H', P.rel σV σV' → Stp h H h' H' → RepE K H' σ' σV' → RepH K h' H' → n σ' h' → nV σV' H'
def lowG (K : KW) (P : Pr) (g : G1) : TG := fun v σV H QV => ∃ d σ h Q, RepV K H d v ∧ RepE K H σ σV ∧ RepH K h H ∧ g d σ h Q ∧ ClG K P σV h H Q QV
def lowGs (K : KW) (P : Pr) (g : Gs1) : TGs := fun vs σV H QV => ∃ ds σ h Q, RepVs K H ds vs ∧ RepE K H σ σV ∧ RepH K h H ∧ g ds σ h Q ∧ ClG K P σV h H Q QV
abbrev DG (X : Cx) (P : Pr) (e : Expr) (g : G1) : Prop := PG X e (lowG X.kw P g)
abbrev DGs (X : Cx) (P : Pr) (es : List Expr) (g : Gs1) : Prop := PGs X es (lowGs X.kw P g)
theorem weakG {e : Expr} {t t' : TG} (p : PG X e t) (w : ∀ v σ H Q, t' v σ H Q → t v σ H Q) : PG X e t' := ⟨fun pins s σ H v u Q I r h => p.run pins s σ H v u Q I r (w v σ H Q h)⟩
theorem weakGs {e : List Expr} {t t' : TGs} (p : PGs X e t) (w : ∀ v σ H Q, t' v σ H Q → t v σ H Q) : PGs X e t' := ⟨fun pins s σ H v u Q I r h => p.run pins s σ H v u Q I r (w v σ H Q h)⟩
def gN (i : Nat) : G1 := fun d σ h Q => Q (put σ i (some d)) h
def OkAt (P : Pr) (i : Nat) : Prop := ∀ σ v, P.rel σ (σ.set i (some v))
theorem okAt0 {i : Nat} : OkAt P0 i := fun _ _ => trivial
theorem wipe_put {i : Nat} {x : Option V} : ∀ (vs : List Nat) (σ : L2.St), i ∈ vs → wipe (σ.set i x) vs = wipe σ vs
  | [], _, h => by cases h
  | v :: vs, σ, h => by
    have out : ∀ (vs : List Nat) (τ : L2.St), i ∉ vs → wipe (τ.set i x) vs = (wipe τ vs).set i x := by
      intro vs
      induction vs with
      | nil => intro τ _; rfl
      | cons u us ih =>
        intro τ hn
        rw [List.mem_cons, not_or] at hn
        show (wipe (τ.set i x) us).set u none = ((wipe τ us).set u none).set i x
        rw [ih τ hn.2, List.set_comm _ _ hn.1]
    show (wipe (σ.set i x) vs).set v none = (wipe σ vs).set v none
    by_cases m : i ∈ vs
    · rw [wipe_put vs σ m]
    · have e : i = v := by
        rcases List.mem_cons.mp h with e | e
        · exact e
        · exact absurd e m
      subst e
      rw [out vs σ m, List.set_set]
theorem okAtW {vs : List Nat} {i : Nat} (h : i ∈ vs) : OkAt (Pw vs) i := fun σ v => wipe_put vs σ h
theorem dg_name (i : Nat) {P : Pr} (ok : OkAt P i) {x : Str} {pos : Pos} (hN : X.N.Nodup) (hi : X.N[i]? = some x) (hx : Loc X.env.scope x) (hf : X.fn x = true ∨ X.env.scope.names.lookup x = some .local := by first | exact .inl rfl | exact .inr rfl | assumption) : DG X P (.Name x pos) (gN i) :=
  weakG (pg_name hN hi hx hf) fun v σV H QV ⟨d, σ, h, Q, rv, hE, hH, hg, hc⟩ => hc _ h _ H (ok σV v) Stp.refl (hE.put rv) hH hg
def gNl : Gs1 := fun ds σ h Q => match ds with
  | [] => Q σ h
  | _ :: _ => False
def gCn (g : G1) (gs : Gs1) : Gs1 := fun ds σ h Q => match ds with
  | [] => False
  | d :: r => g d σ h fun σ' h' => gs r σ' h' Q
theorem dgs_nil {P : Pr} : DGs X P [] gNl := weakGs pgs_nil fun v σV H QV ⟨ds, σ, h, Q, rv, hE, hH, hg, hc⟩ => by
  cases ds with
  | nil => exact ⟨rv, hc σ h σV H (P.re _) Stp.refl hE hH hg⟩
  | cons d r => exact hg.elim
theorem dgs_cons {P : Pr} {e : Expr} {es : List Expr} {g : G1} {gs : Gs1} (a : DG X P e g) (b : DGs X P es gs) (hs : (assignEach (e :: es) X.env).map (·.2) = assign e X.env :: (assignEach es X.env).map (·.2) := by rfl) : DGs X P (e :: es) (gCn g gs) :=
  weakGs (pgs_cons a b hs) fun v σV H QV ⟨ds, σ, h, Q, rv, hE, hH, hg, hc⟩ => by
    cases ds with
    | nil => exact hg.elim
    | cons d r =>
      obtain ⟨w, us, rfl, r1, r2⟩ := rv
      refine ⟨w, us, rfl, d, σ, h, _, r1, hE, hH, hg, fun σ' h' σV' H' p' s' e' r' q => ?_⟩
      exact ⟨r, σ', h', Q, RepVs.mono (Stp.mo hH s') _ r2, e', r', q, fun σ2 h2 σV2 H2 p2 s2 e2 z2 q2 => hc σ2 h2 σV2 H2 (P.tr _ _ _ p' p2) (s'.trans s2) e2 z2 q2⟩
def gTp (n : Nat) (gs : Gs1) : G1 := fun d σ h Q => match d with
  | .tup ds => ds.length = n ∧ gs ds σ h Q
  | _ => False
theorem dg_tup {P : Pr} {es : List Expr} {k : Nat} {gs : Gs1} {n : Nat} {pos : Pos} (hc : X.calm = true) (a : DGs X P es gs) (hn : (assignEach es X.env).length = n := by rfl) (hst : (assignEach es X.env).findIdx? (·.1) = none := by rfl) : DG X P (.Tuple es k pos) (gTp n gs) :=
  weakG (pg_tup hc a hn hst) fun v σV H QV ⟨d, σ, h, Q, rv, hE, hH, hg, hc⟩ => by
    cases d with
    | tup ds =>
      obtain ⟨a, vs, rfl, s, r⟩ := rv
      exact ⟨a, vs, rfl, s, by rw [← r.length]; exact hg.1, ds, σ, h, Q, r, hE, hH, hg.2, hc⟩
    | _ => exact hg.elim
/-! .. a place of a list -/
abbrev Set1 := D → D → D → MH → (MH → Prop) → Prop
def ClM (K : KW) (h : MH) (H : Hp) (n : MH → Prop) (nV : Hp → Prop) : Prop := ∀ h' H', Stp h H h' H' → RepH K h' H' → n h' → nV H'
def lowSet (K : KW) (r : Set1) : TSet := fun o i v H QV => ∃ a b d h Q, RepV K H a o ∧ RepV K H b i ∧ RepV K H d v ∧ RepH K h H ∧ r a b d h Q ∧ ClM K h H Q QV
def setL (p : Addr) (i d : D) (h : MH) (Q : MH → Prop) (xs : List D) : Prop := match i with
  | .int k => match ixN xs.length k with
    | some j => Q (up h p (.lst (xs.set j d)))
    | none => False
  | _ => False
def setDic (p : Addr) (i d : D) (h : MH) (Q : MH → Prop) (kvs : Kvs) : Prop := fit kvs i = true ∧ kvs.length < sizeLine ∧ Q (up h p (.dic (dset kvs i d)))
def setO (p : Addr) (i d : D) (h : MH) (Q : MH → Prop) : Option MO → Prop
  | some (.lst xs) => setL p i d h Q xs
  | some (.dic kvs) => setDic p i d h Q kvs
  | _ => False
def setD : Set1 := fun o i d h Q => match o with
  | .ref p => setO p i d h Q (h p)
  | _ => False
theorem xd_set (hu : X.A.units + 64 < cLine) : PSet X (lowSet X.kw setD) := by
  intro pins s σ H o i v ov iv u QV I r1 r2 r3 ⟨a, b, d, h, Q, ro, ri, rv, hH, hr, hc⟩
  cases a <;> first | (exact hr.elim) | skip
  rename_i p
  have hr : setO p b d h Q (h p) := hr
  have eo : o = .ref p := ro
  subst eo
  cases q : h p with
  | none => rw [q] at hr; exact hr.elim
  | some w =>
    rw [q] at hr
    cases w with
    | lst xs =>
      have hr : setL p b d h Q xs := hr
      cases b <;> first | (exact hr.elim) | skip
      rename_i k _ _
      cases (show i = _ from ri)
      unfold setL at hr
      simp only at hr
      obtain ⟨vs, e, r⟩ := hH _ _ q
      cases e2 : ixN xs.length k with
      | none => rw [e2] at hr; exact hr.elim
      | some j =>
        rw [e2] at hr
        exact set_list pins s σ H _ _ v ov iv u QV I r1 r2 r3 ⟨p, vs, k, j, rfl, rfl, e, by rw [← r.length]; exact e2, hc _ _ (Stp.write q) (hH.write q (.of (P2.set rv j r.pair))) hr⟩
    | dic kvs =>
      cases r1
      obtain ⟨ft, hl, hq⟩ := (show setDic p b d h Q kvs from hr)
      exact dd_setItem hu I (hH _ _ q) ri r2 rv r3 ft hl fun s' o' I' ro' => ⟨_, I', hc _ _ (Stp.write q) (hH.writeO q ro') hq⟩
    | ins _ _ => exact hr.elim
def gSb (to ti : E1) (t : Set1) : G1 := fun d σ h Q => to σ h fun o h1 => ti σ h1 fun i h2 => t o i d h2 fun h3 => Q σ h3
theorem dg_sub (hu : X.A.units + 64 < cLine) {P : Pr} {o i : Expr} {to ti : E1} {pos : Pos} (ho : DE X o to) (hi : DE X i ti)
    (ha : ∀ v, assign (.Subscript o i pos) X.env v = (do
      let ov ← holding [v] (eval o X.env)
      let iv ← holding [v, ov] (eval i X.env)
      standAt pos
      holding [v, ov, iv] (setItem ov iv v)
      release [v, ov, iv] []) := by intro _; rfl) : DG X P (.Subscript o i pos) (gSb to ti setD) :=
  weakG (pg_sub ho hi (xd_set hu) ha) fun v σV H QV ⟨d, σ, h, Q, rv, hE, hH, hg, hc⟩ => by
    refine ⟨σ, h, _, hE, hH, hg, fun a h1 x H1 s1 hH1 r1 q1 => ?_⟩
    refine ⟨σ, h1, _, hE.mono (Stp.mo hH s1), hH1, q1, fun b h2 y H2 s2 hH2 r2 q2 => ?_⟩
    have m1 := Stp.mo hH s1
    have m2 := Stp.mo hH1 s2
    refine ⟨a, b, d, h2, _, RepV.mono m2 _ r1, r2, RepV.mono (m1.trans m2) _ rv, hH2, q2, fun h3 H3 s3 hH3 q3 => ?_⟩
    exact hc σ h3 σV H3 (P.re _) (s1.trans (s2.trans s3)) (hE.mono ((m1.trans m2).trans (Stp.mo hH2 s3))) hH3 q3
/-! ### assignments -/
def dAsg (t : E1) (g : G1) : S1 := fun D σ h => t σ h fun x h1 => g x σ h1 D.nx
theorem ds_asg {tg e : Expr} {t : E1} {g : G1} {pos : Pos} (he : DE X e t) (hg : DG X P0 tg g) (hs : swapsWithSole [tg] e pos.line X.env = pure false := by rfl) (hw : swappedStores [tg] e X.env = pure none := by rfl)
    (h1 : (assignEach [tg] X.env).map (·.2) = [assign tg X.env] := by rfl) : DS X (.Assign [tg] e pos) (dAsg t g) := weakS (ps_asg he hg hs hw h1) fun DV σV H ⟨D, σ, h, hE, hH, ht, hc⟩ =>
  ⟨σ, h, _, hE, hH, ht, fun d h' v H' s' r' rv q => ⟨d, σ, h', _, rv, hE.mono (Stp.mo hH s'), r', q, fun σ2 h2 σV2 H2 _ s2 e2 z2 q2 => hc.nx σ2 h2 σV2 H2 (s'.trans s2) e2 z2 q2⟩⟩
theorem ds_set (i : Nat) {x : Str} {e : Expr} {t : E1} {pos pos' : Pos} (hN : X.N.Nodup) (hi : X.N[i]? = some x) (hx : Loc X.env.scope x) (he : DE X e t) (hs : swapsWith e (some (.Name x pos')) pos.line X.env = pure false := by rfl) (hf : X.fn x = true ∨ X.env.scope.names.lookup x = some .local := by first | exact .inl rfl | exact .inr rfl | assumption) :
    DS X (.Assign [.Name x pos'] e pos) (dAsg t (gN i)) := weakS (ps_set hN hi hx he hs hf) fun DV σV H ⟨D, σ, h, hE, hH, ht, hc⟩ =>
  ⟨σ, h, _, hE, hH, ht, fun d h' v H' s' r' rv q => hc.nx _ h' _ H' s' ((hE.mono (Stp.mo hH s')).put rv) r' q⟩
def dPar (i j : Nat) (ta : A1) : S1 := fun D σ h => ta σ h fun ds h1 => match ds with
  | [d, e] => D.nx (put (put σ i (some d)) j (some e)) h1
  | _ => False
theorem ds_par {i j : Nat} {x y : Str} {a b : Expr} {ta : A1} {px py pt pos : Pos} {kt k2 pt2} (hc : X.calm = true) (hN : X.N.Nodup) (hi : X.N[i]? = some x) (hj : X.N[j]? = some y) (hij : i ≠ j)
    (hx : X.env.scope.names.lookup x = some .local) (hy : X.env.scope.names.lookup y = some .local) (ha : DA X [a, b] ta)
    (hw : swappedStores [.Tuple [.Name x px, .Name y py] kt pt] (.Tuple [a, b] k2 pt2) X.env = pure (some [x, y]))
    (hs : swapsWithSole [.Tuple [.Name x px, .Name y py] kt pt] (.Tuple [a, b] k2 pt2) pos.line X.env = pure false := by rfl) :
    DS X (.Assign [.Tuple [.Name x px, .Name y py] kt pt] (.Tuple [a, b] k2 pt2) pos) (dPar i j ta) := weakS (ps_par hc hN hi hj hij hx hy ha hw hs) fun DV σV H ⟨D, σ, h, hE, hH, ht, hc⟩ =>
  ⟨σ, h, _, hE, hH, ht, fun ds h' vs H' s' r' rv q => by
    match ds, rv, q with
    | [], _, q => exact q.elim
    | [_], _, q => exact q.elim
    | _ :: _ :: _ :: _, _, q => exact q.elim
    | [d, e], rv, q =>
      obtain ⟨v, r, rfl, r1, v2, r2, rfl, r3, r4⟩ := rv
      cases (show r2 = [] from r4)
      exact ⟨v, v2, rfl, hc.nx _ h' _ H' s' (((hE.mono (Stp.mo hH s')).put r1).put r3) r' q⟩⟩
/-! x op= e -/
def lowIp (K : KW) (r : R1) : TIp := lowR K r
def dAug (i : Nat) (t : E1) (r : R1) : S1 := fun D σ h => match nth σ i with
  | some x => t σ h fun y h1 => r x y h1 fun z h2 => D.nx (put σ i (some z)) h2
  | none => False
def iaddD : R1 := fun x y h Q => match x, y with
  | .int i, .int j => Q (.int (i + j)) h
  | .str a, .str b => a.length + b.length ≤ sizeLine ∧ Q (.str (a ++ b)) h
  | _, _ => False
theorem xd_iadd : PIp X .Add (lowIp X.kw iaddD) := by
  intro pins s σ H x y v u Q I r1 r2 ⟨d, e, h, QD, rx, ry, hH, hr, hc⟩
  cases d <;> cases e <;> try exact hr.elim
  case int.int i j => exact ip_add pins s σ H x y v u Q I r1 r2 ⟨i, j, rx, ry, hc.int hH hr⟩
  case str.str a b =>
    obtain ⟨rfl, o1⟩ := rx
    obtain ⟨rfl, o2⟩ := ry
    exact iop_add_str pins s σ H _ _ v u Q I r1 r2 ⟨a, b, rfl, rfl, hr.1, hc.str hH (o1.app o2 hr.1) hr.2⟩
theorem xd_isub : PIp X .Sub (lowIp X.kw subD) := by
  intro pins s σ H x y v u Q I r1 r2 ⟨d, e, h, QD, rx, ry, hH, hr, hc⟩
  cases d <;> cases e <;> try exact hr.elim
  case int.int i j => exact ip_sub pins s σ H x y v u Q I r1 r2 ⟨i, j, rx, ry, hc.int hH hr⟩
theorem ds_aug (i : Nat) {x : Str} {e : Expr} {t : E1} {op : Operator} {r : R1} {pos pos' : Pos} (hN : X.N.Nodup) (hi : X.N[i]? = some x) (hx : Loc X.env.scope x) (he : DE X e t) (ho : PIp X op (lowIp X.kw r)) (hf : X.fn x = true ∨ X.env.scope.names.lookup x = some .local := by first | exact .inl rfl | exact .inr rfl | assumption) :
    DS X (.AugAssign (.Name x pos') op e pos) (dAug i t r) := weakS (ps_aug hN hi hx he ho hf) fun DV σV H ⟨D, σ, h, hE, hH, ht, hc⟩ => by
  unfold dAug at ht
  cases q : nth σ i with
  | none => rw [q] at ht; exact ht.elim
  | some d =>
    rw [q] at ht
    obtain ⟨v, e1, rv⟩ := hE.val i d q
    refine ⟨v, e1, σ, h, _, hE, hH, ht, fun e h1 u H1 s1 hH1 ru q1 => ?_⟩
    have m1 := Stp.mo hH s1
    refine ⟨d, e, h1, _, RepV.mono m1 _ rv, ru, hH1, q1, fun z h2 w H2 s2 hH2 rw' q2 => ?_⟩
    exact hc.nx _ h2 _ H2 (s1.trans s2) ((hE.mono (m1.trans (Stp.mo hH1 s2))).put rw') hH2 q2
/-! xs[i] op= e -/
def lowGet (K : KW) (r : R1) : V → V → Hp → VK → Prop := lowR K r
def getL (i : D) (h : MH) (Q : KD) (xs : List D) : Prop := match i with
  | .int k => match atI xs k with
    | some d => 0 ≤ k ∧ Q d h
    | none => False
  | _ => False
def getO (i : D) (h : MH) (Q : KD) : Option MO → Prop
  | some (.lst xs) => getL i h Q xs
  | some (.dic kvs) => ixDic kvs i h Q
  | _ => False
def getD1 : R1 := fun x y h Q => match x with
  | .ref p => getO y h Q (h p)
  | _ => False
theorem xd_get (hu : X.A.units + 64 < cLine) : PGet X (lowGet X.kw getD1) := by
  intro pins s σ H o i ov iv Q I ro ri ⟨d, e, h, QD, rx, ry, hH, hr, hc⟩
  cases d <;> first | (exact hr.elim) | skip
  rename_i p
  cases (show o = _ from rx)
  have hr : getO e h QD (h p) := hr
  cases q : h p with
  | none => rw [q] at hr; exact hr.elim
  | some u =>
    rw [q] at hr
    cases u with
    | lst xs =>
      have hr : getL e h QD xs := hr
      cases e <;> first | (exact hr.elim) | skip
      rename_i k _ _
      cases (show i = _ from ry)
      unfold getL at hr
      simp only at hr
      obtain ⟨vs, e, r⟩ := hH _ _ q
      cases e2 : atI xs k with
      | none => rw [e2] at hr; exact hr.elim
      | some z =>
        rw [e2] at hr
        obtain ⟨w, hw, rw'⟩ := atI_rep r.pair e2
        cases ro
        obtain ⟨t, rfl⟩ := ri
        obtain ⟨its, rv, pl, hz⟩ := I.list (SqL.of e)
        obtain ⟨j, j1, j2, j3, j4, j5⟩ := atI_get hw
        have hl := rv.length
        have hn := line63
        obtain ⟨uw, eu, ru⟩ := rv.get j2
        have hj : k.toNat = j := by
          rw [seqIndex_of hr.1 j5] at j1
          exact Option.some.inj j1
        exact wpAny_getItem_list pl.isList hr.1 (by omega) (by rw [hj]; simpa using eu) ⟨w, H, I, ru, hc.val hH rw' hr.2⟩
    | dic kvs =>
      cases ro
      obtain ⟨ft, hr⟩ := (show ixDic kvs e h QD from hr)
      cases g : dget kvs e with
      | none => rw [g] at hr; exact hr.elim
      | some f =>
        rw [g] at hr
        exact dd_getItem hu I (hH _ _ q) ry ri ft g fun w' s' I' ⟨z, rz, rf⟩ => ⟨z, H, I', rz, hc.val hH rf hr⟩
    | ins _ _ => exact hr.elim
def dAugS (to ti te : E1) (r : R1) : S1 := fun D σ h => to σ h fun o h1 => ti σ h1 fun i h2 => getD1 o i h2 fun x h3 => te σ h3 fun y h4 => r x y h4 fun z h5 => setD o i z h5 fun h6 => D.nx σ h6
theorem ds_augS (hu : X.A.units + 64 < cLine) {o i e : Expr} {to ti te : E1} {op : Operator} {r : R1} {pos tpos : Pos} (ho : DE X o to) (hi : DE X i ti) (he : DE X e te) (hp : PIp X op (lowIp X.kw r))
    (ha : ∀ ov iv new, augStore i ov iv new = (do holding [new, ov, iv] (setItem ov iv new); release [new, ov, iv] []; pure .next) := by intros; rfl) : DS X (.AugAssign (.Subscript o i tpos) op e pos) (dAugS to ti te r) :=
  weakS (ps_augS ho hi (xd_get hu) he hp (xd_set hu) ha) fun DV σV H ⟨D, σ, h, hE, hH, ht, hc⟩ => by
    refine ⟨σ, h, _, hE, hH, ht, fun a h1 x H1 s1 hH1 r1 q1 => ?_⟩
    have m1 := Stp.mo hH s1
    refine ⟨σ, h1, _, hE.mono m1, hH1, q1, fun b h2 y H2 s2 hH2 r2 q2 => ?_⟩
    have m2 := Stp.mo hH1 s2
    refine ⟨a, b, h2, _, RepV.mono m2 _ r1, r2, hH2, q2, fun d h3 z H3 s3 hH3 r3 q3 => ?_⟩
    have m3 := Stp.mo hH2 s3
    refine ⟨σ, h3, _, hE.mono ((m1.trans m2).trans m3), hH3, q3, fun e h4 u H4 s4 hH4 r4 q4 => ?_⟩
    have m4 := Stp.mo hH3 s4
    refine ⟨d, e, h4, _, RepV.mono m4 _ r3, r4, hH4, q4, fun f h5 w H5 s5 hH5 r5 q5 => ?_⟩
    have m5 := Stp.mo hH4 s5
    refine ⟨a, b, f, h5, _, RepV.mono ((m2.trans m3).trans (m4.trans m5)) _ r1, RepV.mono (m3.trans (m4.trans m5)) _ r2, r5, hH5, q5, fun h6 H6 s6 hH6 q6 => ?_⟩
    exact hc.nx σ h6 σV H6 (s1.trans (s2.trans (s3.trans (s4.trans (s5.trans s6))))) (hE.mono (((m1.trans m2).trans (m3.trans m4)).trans (m5.trans (Stp.mo hH5 s6)))) hH6 q6
end
end DL
namespace DL
open PySem PySem.Spec PyProof.Rows L2
/-! ### what is walked -/
structure SrcOk (K : KW) (J : It) (xs : List D) (stab : MH → Prop) (h1 : MH) (H1 : Hp) : Prop where
  go : ∀ h H i, Stp h1 H1 h H → RepH K h H → stab h → i < xs.length → J.go i H
  yl : ∀ h H i v H', Stp h1 H1 h H → RepH K h H → stab h → i < xs.length → J.yld i H v H' → ∃ d, xs[i]? = some d ∧ RepV K H' d v ∧ Stp h H h H' ∧ RepH K h H'
  st : ∀ h H, Stp h1 H1 h H → RepH K h H → stab h → J.stop xs.length H
abbrev I1 := Sl → MH → (List D → (MH → Prop) → MH → Prop) → Prop
def lowI (K : KW) (t : I1) : TI := fun σV H R => ∃ σ h Q, RepE K H σ σV ∧ RepH K h H ∧ t σ h Q ∧ ∀ xs stab h1 J H1, Stp h H h1 H1 → RepH K h1 H1 → SrcOk K J xs stab h1 H1 → Q xs stab h1 → R J H1
abbrev DI (X : Cx) (tg it : Expr) (t : I1) : Prop := PI X tg it (lowI X.kw t)
theorem weakI {X : Cx} {tg e : Expr} {t t' : TI} (p : PI X tg e t) (w : ∀ σ H Q, t' σ H Q → t σ H Q) : PI X tg e t' := ⟨fun pins s σ H Q I h => p.run pins s σ H Q I (w σ H Q h)⟩
/-- the signs of a text -/
def signs (z : Str) : List D := z.cps.toList.map fun c => .str ⟨#[c]⟩
def stabO (a : Addr) (xs : List D) : MH → Prop := fun h => h a = some (.lst xs)
def srcO (a : Addr) (h : MH) (Q : List D → (MH → Prop) → MH → Prop) : Option MO → Prop
  | some (.lst xs) => Q xs (stabO a xs) h
  | _ => False
/-- what a value is, walked -/
def srcD (d : D) (h : MH) (Q : List D → (MH → Prop) → MH → Prop) : Prop := match d with
  | .tup xs => Q xs (fun _ => True) h
  | .rol xs => Q xs (fun _ => True) h
  | .str z => Q (signs z) (fun _ => True) h
  | .ref a => srcO a h Q (h a)
  | _ => False
def iSeq (t : E1) : I1 := fun σ h Q => t σ h fun d h1 => srcD d h1 Q
section
variable {K : KW}
theorem src_tup {H1 : Hp} {h1 : MH} {a : Addr} {xs : List D} {vs : List V} (r1 : RepH K h1 H1) (s : SqT K.F H1 a vs) (r : RepVs K H1 xs vs) : SrcOk K (Itt K.F a) xs (fun _ => True) h1 H1 := by
  have up : ∀ h H, Stp h1 H1 h H → SqT K.F H a vs ∧ RepVs K H xs vs := fun h H q => ⟨(Stp.mo r1 q).t _ _ s, RepVs.mono (Stp.mo r1 q) _ r⟩
  refine ⟨fun h H i q _ _ hi => ?_, fun h H i v H' q rh _ hi y => ?_, fun h H q _ _ => ⟨vs, (up h H q).1, by rw [← r.length]; exact Nat.le_refl _⟩⟩
  · obtain ⟨w, ew, _⟩ := P2.get r.pair (List.getElem?_eq_getElem hi)
    exact ⟨vs, w, (up h H q).1, ew⟩
  · obtain ⟨rfl, y⟩ := y
    obtain ⟨d, ed, rd⟩ := P2.get' (up _ _ q).2.pair (y vs (up _ _ q).1)
    exact ⟨d, ed, rd, Stp.refl, rh⟩
theorem src_rol {H1 : Hp} {h1 : MH} {a : Addr} {xs : List D} {vs : List V} (r1 : RepH K h1 H1) (s : ROL K H1 a vs) (r : RepVs K H1 xs vs) : SrcOk K (Itl K.F a) xs (fun _ => True) h1 H1 := by
  have up : ∀ h H, Stp h1 H1 h H → SqL K.F H a vs ∧ RepVs K H xs vs := fun h H q => ⟨((Stp.mo r1 q).l _ _ s).sq, RepVs.mono (Stp.mo r1 q) _ r⟩
  refine ⟨fun h H i q _ _ hi => ?_, fun h H i v H' q rh _ hi y => ?_, fun h H q _ _ => ⟨vs, (up h H q).1, by rw [← r.length]; exact Nat.le_refl _⟩⟩
  · obtain ⟨w, ew, _⟩ := P2.get r.pair (List.getElem?_eq_getElem hi)
    exact ⟨vs, w, (up h H q).1, ew⟩
  · obtain ⟨rfl, y⟩ := y
    obtain ⟨d, ed, rd⟩ := P2.get' (up _ _ q).2.pair (y vs (up _ _ q).1)
    exact ⟨d, ed, rd, Stp.refl, rh⟩
theorem src_lst {H1 : Hp} {h1 : MH} {a : Addr} {xs : List D} : SrcOk K (Itl K.F a) xs (stabO a xs) h1 H1 := by
  refine ⟨fun h H i _ rh st hi => ?_, fun h H i v H' _ rh st hi y => ?_, fun h H _ rh st => ?_⟩
  · obtain ⟨vs, e, r⟩ := rh a _ st
    obtain ⟨w, ew, _⟩ := P2.get r.pair (List.getElem?_eq_getElem hi)
    exact ⟨vs, w, SqL.of e, ew⟩
  · obtain ⟨vs, e, r⟩ := rh a _ st
    obtain ⟨rfl, y⟩ := y
    obtain ⟨d, ed, rd⟩ := P2.get' r.pair (y vs (SqL.of e))
    exact ⟨d, ed, rd, Stp.refl, rh⟩
  · obtain ⟨vs, e, r⟩ := rh a _ st
    exact ⟨vs, SqL.of e, by rw [← r.length]; exact Nat.le_refl _⟩
theorem src_str {H1 : Hp} {h1 : MH} {z : Str} (ok : okS z) : SrcOk K (Its z) (signs z) (fun _ => True) h1 H1 := by
  have len : (signs z).length = z.cps.size := by unfold signs; rw [List.length_map, Array.length_toList]
  refine ⟨fun h H i _ _ _ hi => ?_, fun h H i v H' _ rh _ hi y => ?_, fun h H _ _ _ => ?_⟩
  · show i < z.cps.size
    rw [← len]; exact hi
  · obtain ⟨rfl, c, ec, rfl⟩ := y
    refine ⟨.str ⟨#[c]⟩, ?_, ⟨rfl, ?_⟩, Stp.refl, rh⟩
    · unfold signs
      rw [List.getElem?_map, Array.getElem?_toList, ec]; rfl
    · refine ⟨by show 1 ≤ sizeLine; decide, ?_⟩
      have o := ok.2
      unfold PyData.strOk at o ⊢
      rw [Array.all_eq_true] at o
      obtain ⟨hlt, e⟩ := Array.getElem?_eq_some_iff.mp ec
      have := o i hlt
      rw [e] at this
      rw [← Array.all_toList, List.all_cons, List.all_nil, Bool.and_true]; exact this
  · show z.cps.size ≤ (signs z).length
    rw [len]; exact Nat.le_refl _
def rgD (lo : Int) (n : Nat) : List D := (List.range n).map fun i => .int (lo + (i : Nat))
theorem src_rng {H1 : Hp} {h1 : MH} {lo : Int} {n : Nat} : SrcOk K (Itr lo n) (rgD lo n) (fun _ => True) h1 H1 := by
  have len : (rgD lo n).length = n := by unfold rgD; rw [List.length_map, List.length_range]
  refine ⟨fun h H i _ _ _ hi => ?_, fun h H i v H' _ rh _ hi y => ?_, fun h H _ _ _ => ?_⟩
  · show i < n
    rw [← len]; exact hi
  · obtain ⟨rfl, rfl⟩ := y
    rw [len] at hi
    refine ⟨.int (lo + (i : Nat)), ?_, rfl, Stp.refl, rh⟩
    unfold rgD
    rw [List.getElem?_map, List.getElem?_range hi]; rfl
  · show n ≤ (rgD lo n).length
    rw [len]; exact Nat.le_refl _
end
section
variable {X : Cx}
theorem di_seq {tg e : Expr} {t : E1} (he : DE X e t) : DI X tg e (iSeq t) := by
  refine ⟨fun pins s σV H R I ⟨σ, h, Q, hE, hH, ht, hc⟩ => ?_⟩
  refine thn (he.run pins s σV H (fun v H' => ∃ d h', Stp h H h' H' ∧ RepH X.kw h' H' ∧ RepV X.kw H' d v ∧ srcD d h' Q) I ⟨σ, h, _, hE, hH, ht, fun d h' v H' s' r' rv q => ⟨d, h', s', r', rv, q⟩⟩) fun u s1 ⟨v, H1, I1, r1, d, h1, st1, rh1, rv, q⟩ => ?_
  cases d with
  | tup xs =>
    obtain ⟨a, vs, rfl, sq, rr⟩ := rv
    cases r1
    obtain ⟨its, _, tp, _⟩ := I1.tuple sq
    refine wpAny_pyIter_tuple (show s1.heap.IsTuple a its.toArray from tp) (pi_one (tk := s1.toks) I1 _ (turn_tuple a _) ?_ (hc _ _ _ _ _ st1 rh1 (src_tup rh1 sq rr) q))
    exact ⟨_, Heap.get?_push_size _ rfl, rfl, rfl⟩
  | rol xs =>
    obtain ⟨a, vs, rfl, sq, rr⟩ := rv
    cases r1
    obtain ⟨its, _, tp, _⟩ := I1.list sq.sq
    refine wpAny_pyIter_list tp.isList (pi_one (tk := s1.toks) I1 _ (turn_list a _) ?_ (hc _ _ _ _ _ st1 rh1 (src_rol rh1 sq rr) q))
    exact ⟨_, Heap.get?_push_size _ rfl, rfl, rfl⟩
  | ref a =>
    cases (show v = _ from rv)
    cases r1
    have q : srcO a h1 Q (h1 a) := q
    cases e : h1 a with
    | none => rw [e] at q; exact q.elim
    | some o =>
      cases o with
      | lst xs =>
        rw [e] at q
        obtain ⟨vs, eH, rr⟩ := rh1 a _ e
        obtain ⟨its, _, tp, _⟩ := I1.list (SqL.of eH)
        refine wpAny_pyIter_list tp.isList (pi_one (tk := s1.toks) I1 _ (turn_list a _) ?_ (hc _ _ _ _ _ st1 rh1 src_lst q))
        exact ⟨_, Heap.get?_push_size _ rfl, rfl, rfl⟩
      | dic _ => rw [e] at q; exact q.elim
      | ins _ _ => rw [e] at q; exact q.elim
  | str z =>
    obtain ⟨rfl, ok⟩ := rv
    obtain ⟨t, rfl⟩ := r1
    have fin : R (Its z) H1 := hc _ _ _ _ _ st1 rh1 (src_str ok) q
    cases ha : z.cps.all (· < 128)
    · refine wpAny_pyIter_wide ha (pi_one (tk := s1.toks) I1 _ (turn_str _ z t "str_iterator" (.inr rfl)) ?_ fin)
      exact ⟨_, Heap.get?_push_size _ rfl, rfl, rfl⟩
    · refine wpAny_pyIter_ascii ha (pi_one (tk := s1.toks) I1 _ (turn_str _ z t "str_ascii_iterator" (.inl rfl)) ?_ fin)
      exact ⟨_, Heap.get?_push_size _ rfl, rfl, rfl⟩
  | _ => exact q.elim
def rg1 (ds : List D) (h : MH) (Q : List D → (MH → Prop) → MH → Prop) : Prop := match ds with
  | [.int j] => (-(2 ^ 62) ≤ j ∧ j < 2 ^ 62) ∧ Q (rgD 0 j.toNat) (fun _ => True) h
  | _ => False
def iRg1 (ta : A1) : I1 := fun σ h Q => ta σ h fun ds h1 => rg1 ds h1 Q
theorem rg1_inv {ds : List D} {h : MH} {Q : List D → (MH → Prop) → MH → Prop} (q : rg1 ds h Q) : ∃ j, ds = [.int j] ∧ (-(2 ^ 62) ≤ j ∧ j < 2 ^ 62) ∧ Q (rgD 0 j.toNat) (fun _ => True) h := by
  unfold rg1 at q
  split at q
  · exact ⟨_, rfl, q.1, q.2⟩
  · exact q.elim
theorem di_range1 {tg a : Expr} {ta : A1} {p pos : Pos} (hg : Gl X "range") (hm : X.mg "range" = none) (ha : DA X [a] ta) (hs : starEach [a] X.env = [(false, eval a X.env)] := by rfl) : DI X tg (.Call (.Name "range" p) [a] [] pos) (iRg1 ta) :=
  weakI (pi_range1 hg hm ha hs) fun σV H R ⟨σ, h, Q, hE, hH, ht, hc⟩ => ⟨σ, h, _, hE, hH, ht, fun ds h' vs H' s' r' rv q => by
    obtain ⟨j, rfl, b, q⟩ := rg1_inv q
    obtain ⟨v, r, rfl, r1, r2⟩ := rv
    cases (show v = _ from r1)
    cases (show r = [] from r2)
    exact ⟨j, rfl, b.1, b.2, hc _ _ _ _ _ s' r' src_rng q⟩⟩
def rg2 (ds : List D) (h : MH) (Q : List D → (MH → Prop) → MH → Prop) : Prop := match ds with
  | [.int i, .int j] => (-(2 ^ 62) ≤ i ∧ i < 2 ^ 62 ∧ -(2 ^ 62) ≤ j ∧ j < 2 ^ 62) ∧ Q (rgD i (j - i).toNat) (fun _ => True) h
  | _ => False
def iRg2 (ta : A1) : I1 := fun σ h Q => ta σ h fun ds h1 => rg2 ds h1 Q
theorem rg2_inv {ds : List D} {h : MH} {Q : List D → (MH → Prop) → MH → Prop} (q : rg2 ds h Q) : ∃ i j, ds = [.int i, .int j] ∧ (-(2 ^ 62) ≤ i ∧ i < 2 ^ 62 ∧ -(2 ^ 62) ≤ j ∧ j < 2 ^ 62) ∧ Q (rgD i (j - i).toNat) (fun _ => True) h := by
  unfold rg2 at q
  split at q
  · exact ⟨_, _, rfl, q.1, q.2⟩
  · exact q.elim
theorem di_range2 {tg a b : Expr} {ta : A1} {p pos : Pos} (hg : Gl X "range") (hm : X.mg "range" = none) (ha : DA X [a, b] ta) (hs : starEach [a, b] X.env = [(false, eval a X.env), (false, eval b X.env)] := by rfl) (hs2 : starEach [b] X.env = [(false, eval b X.env)] := by rfl) : DI X tg (.Call (.Name "range" p) [a, b] [] pos) (iRg2 ta) :=
  weakI (pi_range2 hg hm ha hs hs2) fun σV H R ⟨σ, h, Q, hE, hH, ht, hc⟩ => ⟨σ, h, _, hE, hH, ht, fun ds h' vs H' s' r' rv q => by
    obtain ⟨i, j, rfl, b, q⟩ := rg2_inv q
    obtain ⟨v, r, rfl, r1, v2, r2, rfl, r3, r4⟩ := rv
    cases (show v = _ from r1)
    cases (show v2 = _ from r3)
    cases (show r2 = [] from r4)
    exact ⟨i, j, rfl, b, hc _ _ _ _ _ s' r' src_rng q⟩⟩
/-! ### loops -/
/-- at less than what stands -/
def Lw (I : Sl → MH → Prop) : Sl → MH → Prop := fun σ h => ∃ σ0 h0, leS σ0 σ ∧ le h0 h ∧ I σ0 h0
theorem Lw.of {I : Sl → MH → Prop} {σ : Sl} {h : MH} (q : I σ h) : Lw I σ h := ⟨σ, h, leS.refl, le.refl, q⟩
def dWhile (c : T1) (tb : S1) : S1 := fun D σ h => ∃ I : Nat → Sl → MH → Prop, (∃ m, Lw (I m) σ h) ∧ ∀ m σ h, I m σ h → c σ h fun b h1 =>
  if b = true then tb { D with nx := fun σ' h' => ∃ m', m' < m ∧ Lw (I m') σ' h', ct := fun σ' h' => ∃ m', m' < m ∧ Lw (I m') σ' h', bk := D.nx } σ h1 else D.nx σ h1
theorem ds_while {c : Expr} {body : List Stmt} {tc : T1} {tb : S1} {pos : Pos} (hp : PassesOwn (model X.prog X.w) X.A X.env X.xe) (hc : DT X c tc) (hb : DSs X body tb) : DS X (.While c body [] pos) (dWhile tc tb) :=
  weakS (ps_while hp hc hb) fun DV σV H ⟨D, σ, h, hE, hH, ⟨I, ⟨m0, σ0, h0, w1, w2, i0⟩, turn⟩, hcl⟩ => by
    refine ⟨fun m σV' H' => ∃ σ' h', Stp h H h' H' ∧ RepE X.kw H' σ' σV' ∧ RepH X.kw h' H' ∧ I m σ' h', ⟨m0, σ0, h0, Stp.low Stp.refl w2, hE.low w1, hH.low w2, i0⟩, ?_⟩
    rintro m σV1 H1 ⟨σ1, h1, s1, e1, r1, i1⟩
    refine ⟨σ1, h1, _, e1, r1, turn m σ1 h1 i1, fun b h2 H2 s2 r2 q => ?_⟩
    have e2 := e1.mono (Stp.mo r1 s2)
    cases b with
    | false =>
      rw [if_neg Bool.false_ne_true] at q
      exact iteF (hcl.nx _ _ _ _ (s1.trans s2) e2 r2 q)
    | true =>
      rw [if_pos rfl] at q
      refine iteT ?_
      refine ⟨fun σV' H' => ∃ m', m' < m ∧ ∃ σ' h', Stp h H h' H' ∧ RepE X.kw H' σ' σV' ∧ RepH X.kw h' H' ∧ I m' σ' h', fun σ' H' z => z, ?_⟩
      have back : ClN X.kw h2 H2 (fun σ' h' => ∃ m', m' < m ∧ Lw (I m') σ' h') fun σV' H' => ∃ m', m' < m ∧ ∃ σ' h', Stp h H h' H' ∧ RepE X.kw H' σ' σV' ∧ RepH X.kw h' H' ∧ I m' σ' h' := fun σ' h' σV' H' s' e' r' ⟨m', hm, σ0, h0, w1, w2, i0⟩ =>
        ⟨m', hm, σ0, h0, ((s1.trans s2).trans s').low w2, e'.low w1, r'.low w2, i0⟩
      exact ⟨_, σ1, h2, e2, r2, q, ⟨back, (hcl.rt.step (s1.trans s2)), hcl.nx.step (s1.trans s2), back⟩⟩
def dFor (it : I1) (g : G1) (tb : S1) : S1 := fun D σ h => it σ h fun xs stab h1 => ∃ I : Nat → Sl → MH → Prop, Lw (I 0) σ h1 ∧ (∀ i σ h, I i σ h → stab h) ∧
  (∀ i x σ h, xs[i]? = some x → I i σ h → g x σ h fun σ2 h2 => tb { D with nx := Lw (I (i + 1)), ct := Lw (I (i + 1)), bk := D.nx } σ2 h2) ∧ ∀ σ h, I xs.length σ h → D.nx σ h
theorem ds_for {tg iter : Expr} {body : List Stmt} {wi : I1} {g : G1} {tb : S1} {pos : Pos} (hp : PassesOwn (model X.prog X.w) X.A X.env X.xe) (hc : X.calm = true) (hi : DI X tg iter wi) (hg : DG X P0 tg g) (hb : DSs X body tb)
    (hs : ∀ x, foldedSetIterable iter X.env x = pure x := by intro _; rfl) : DS X (.For tg iter body [] pos) (dFor wi g tb) :=
  weakS (ps_for hp hc hi hg hb hs) fun DV σV H ⟨D, σ, h, hE, hH, ht, hcl⟩ => by
    refine ⟨σ, h, _, hE, hH, ht, fun xs stab h1 J H1 s1 r1 so ⟨I, ⟨σ0, h0, w1, w2, i0⟩, st, turn, fin⟩ => ?_⟩
    have e1 := hE.mono (Stp.mo hH s1)
    refine ⟨fun i m σV' H' => m = xs.length - i ∧ i ≤ xs.length ∧ ∃ σ' h', Stp h1 H1 h' H' ∧ RepE X.kw H' σ' σV' ∧ RepH X.kw h' H' ∧ I i σ' h', ⟨xs.length, rfl, Nat.zero_le _, σ0, h0, Stp.low Stp.refl w2, e1.low w1, r1.low w2, i0⟩, ?_⟩
    rintro i m σV2 H2 ⟨rfl, hi, σ2, h2, s2, e2, r2, i2⟩
    by_cases lt : i < xs.length
    · refine .inr ⟨so.go h2 H2 i s2 r2 (st _ _ _ i2) lt, fun σV' H' => ∃ σ' h', Stp h1 H1 h' H' ∧ RepE X.kw H' σ' σV' ∧ RepH X.kw h' H' ∧ I (i + 1) σ' h', fun σ' H' z => ⟨xs.length - (i + 1), by omega, rfl, lt, z⟩, fun v H3 y => ?_⟩
      obtain ⟨d, ed, rd, s3, r3⟩ := so.yl h2 H2 i v H3 s2 r2 (st _ _ _ i2) lt y
      refine ⟨d, σ2, h2, _, rd, e2.mono (Stp.mo r2 s3), r3, turn i d σ2 h2 ed i2, fun σ4 h4 σV4 H4 _ s4 e4 r4 q4 => ?_⟩
      have back : ClN X.kw h4 H4 (Lw (I (i + 1))) fun σV' H' => ∃ σ' h', Stp h1 H1 h' H' ∧ RepE X.kw H' σ' σV' ∧ RepH X.kw h' H' ∧ I (i + 1) σ' h' := fun σ' h' σV' H' s' e' r' ⟨σ0, h0, w1, w2, i0⟩ =>
        ⟨σ0, h0, ((s2.trans (s3.trans s4)).trans s').low w2, e'.low w1, r'.low w2, i0⟩
      have all := s1.trans (s2.trans (s3.trans s4))
      exact ⟨_, σ4, h4, e4, r4, q4, ⟨back, hcl.rt.step all, hcl.nx.step all, back⟩⟩
    · have e : i = xs.length := by omega
      subst e
      exact .inl ⟨so.st h2 H2 s2 r2 (st _ _ _ i2), hcl.nx _ _ _ _ (s1.trans s2) e2 r2 (fin σ2 h2 i2)⟩
/-! ### comprehensions -/
def wipeD (σ : Sl) : List Nat → Sl
  | [] => σ
  | v :: vs => put (wipeD σ vs) v none
theorem wipeD_len (σ : Sl) : ∀ vs, (wipeD σ vs).length = σ.length
  | [] => rfl
  | v :: vs => by show (put _ v none).length = _; rw [put_len, wipeD_len σ vs]
theorem wipeD_nth {σ : Sl} {j : Nat} {e : D} : ∀ {vs : List Nat}, nth (wipeD σ vs) j = some e → nth σ j = some e ∧ j ∉ vs
  | [], h => ⟨h, by simp⟩
  | v :: vs, h => by
    rcases nth_put _ v j none h with ⟨_, q⟩ | ⟨n, q⟩
    · cases q
    · obtain ⟨a, b⟩ := wipeD_nth q
      exact ⟨a, by simp [n, b]⟩
theorem wipe_at {σ : L2.St} {j : Nat} : ∀ {vs : List Nat}, j ∉ vs → (wipe σ vs)[j]? = σ[j]?
  | [], _ => rfl
  | v :: vs, h => by
    rw [List.mem_cons, not_or] at h
    show ((wipe σ vs).set v none)[j]? = _
    rw [List.getElem?_set_ne (Ne.symm h.1), wipe_at h.2]
theorem RepE.wipe {K : KW} {H : Hp} {σ : Sl} {σV : L2.St} (r : RepE K H σ σV) (vs : List Nat) : RepE K H (wipeD σ vs) (L2.wipe σV vs) := by
  refine ⟨by rw [wipeD_len, wipe_length]; exact r.len, fun i d e => ?_⟩
  obtain ⟨a, b⟩ := wipeD_nth e
  obtain ⟨v, x, y⟩ := r.val i d a
  exact ⟨v, by rw [wipe_at b]; exact x, y⟩
theorem wipe_wipe {σ : L2.St} : ∀ {vs : List Nat} (ws : List Nat), (∀ v ∈ vs, v ∈ ws) → L2.wipe (L2.wipe σ vs) ws = L2.wipe σ ws
  | [], _, _ => rfl
  | v :: vs, ws, h => by
    show L2.wipe ((L2.wipe σ vs).set v none) ws = _
    rw [wipe_put ws _ (h v (by simp)), wipe_wipe ws fun u hu => h u (by simp [hu])]
def dLc (it : I1) (g : G1) (tt : T1) (te : E1) (vs : List Nat) : E1 := fun σ h Q => it σ h fun xs stab h1 => xs.length ≤ sizeLine ∧ ∃ I : Nat → List D → MH → Prop, (∃ h0, le h0 h1 ∧ I 0 [] h0) ∧ (∀ i a h, I i a h → stab h) ∧
  (∀ i x a h, xs[i]? = some x → I i a h → g x (wipeD σ vs) h fun σ2 h2 => tt σ2 h2 fun b h3 => if b = true then te σ2 h3 fun y h4 => ∃ h5, le h5 h4 ∧ I (i + 1) (a ++ [y]) h5 else ∃ h5, le h5 h3 ∧ I (i + 1) a h5) ∧
  ∀ a h, I xs.length a h → ∀ p, h p = none → Q (.ref p) (up h p (.lst a))
abbrev DTs (X : Cx) (ifs : List Expr) (t : T1) : Prop := PTs X ifs (lowT X.kw t)
def dYes : T1 := fun _ h Q => Q true h
theorem dts_nil : DTs X [] dYes := ⟨fun pins s σV H QV I ⟨σ, h, Q, hE, hH, ht, hc⟩ => pts_nil.run pins s σV H QV I (hc true h H Stp.refl hH ht)⟩
theorem dts_one {c : Expr} {t : T1} (h : DT X c t) : DTs X [c] t := pts_one h
theorem low_lc {K : KW} {it : I1} {g : G1} {tt : T1} {te : E1} {vs : List Nat} {σV : L2.St} {H : Hp} {QV : VK} (q : lowE K (dLc it g tt te vs) σV H QV) :
    tLc (lowI K it) (lowG K (Pw vs) g) (lowT K tt) (lowE K te) vs σV H QV := by
  obtain ⟨σ, h, Q, hE, hH, ht, hc⟩ := q
  refine ⟨σ, h, _, hE, hH, ht, fun xs stab h1 J H1 s1 r1 so ⟨hz, I, ⟨h0, w0, i0⟩, st, turn, fin⟩ A nA => ?_⟩
  have e1 := (hE.mono (Stp.mo hH s1)).wipe vs
  have h0A : h0 A = none := by
    cases z : h0 A with
    | none => rfl
    | some u => have := w0 A u z; rw [r1.nofresh nA] at this; cases this
  refine ⟨fun i m H' => m = xs.length - i ∧ i ≤ xs.length ∧ ∃ a av h', H' A = some (.lst av) ∧ RepVs K H' a av ∧ a.length ≤ i ∧ Stp h1 H1 h' H' ∧ RepH K h' H' ∧ h' A = none ∧ RepE K H' (wipeD σ vs) (L2.wipe σV vs) ∧ I i a h', ⟨xs.length, rfl, Nat.zero_le _, [], [], h0, upd_same, rfl, Nat.zero_le _, ?_, ?_, h0A, ?_, i0⟩, ?_⟩
  · exact (Stp.hide nA).low w0
  · exact (r1.hide nA).low w0
  · exact e1.mono (Stp.mo r1 (Stp.hide nA))
  rintro i m H2 ⟨rfl, hi, a, av, h2, eA, ra, la, s2, r2, hA, e2, i2⟩
  by_cases lt : i < xs.length
  · refine .inr ⟨so.go h2 H2 i s2 r2 (st _ _ _ i2) lt, fun H' => ∃ a av h', H' A = some (.lst av) ∧ RepVs K H' a av ∧ a.length ≤ i + 1 ∧ Stp h1 H1 h' H' ∧ RepH K h' H' ∧ h' A = none ∧ RepE K H' (wipeD σ vs) (L2.wipe σV vs) ∧ I (i + 1) a h', fun H' z => ⟨xs.length - (i + 1), by omega, rfl, lt, z⟩, fun v H3 y => ?_⟩
    obtain ⟨d, ed, rd, s3, r3⟩ := so.yl h2 H2 i v H3 s2 r2 (st _ _ _ i2) lt y
    refine ⟨d, wipeD σ vs, h2, _, rd, e2.mono (Stp.mo r2 s3), r3, turn i d a h2 ed i2, fun σ4 h4 σV4 H4 p4 s4 e4 r4 q4 => ⟨?_, ?_⟩⟩
    · have p4 : L2.wipe σV4 vs = L2.wipe (L2.wipe σV vs) vs := p4
      rw [p4, wipe_wipe vs fun _ z => z]
    refine ⟨σ4, h4, _, e4, r4, q4, fun b h5 H5 s5 r5 q5 => ?_⟩
    have s35 := s3.trans (s4.trans s5)
    have m35 := Stp.mo r2 s35
    obtain ⟨hA5, eA5⟩ := s35 A _ hA eA
    cases b with
    | false =>
      rw [if_neg Bool.false_ne_true] at q5
      refine iteF ?_
      obtain ⟨h6, w6, i6⟩ := q5
      refine ⟨a, av, h6, eA5, RepVs.mono m35 _ ra, by omega, (s2.trans s35).low w6, r5.low w6, ?_, e2.mono m35, i6⟩
      cases z : h6 A with
      | none => rfl
      | some u => have := w6 A u z; rw [hA5] at this; cases this
    | true =>
      rw [if_pos rfl] at q5
      refine iteT ?_
      refine ⟨σ4, h5, _, e4.mono (Stp.mo r4 s5), r5, q5, fun y h6 yv H6 s6 r6 ry ⟨h7, w7, i7⟩ => ?_⟩
      have s36 := s35.trans s6
      have m36 := Stp.mo r2 s36
      obtain ⟨hA6, eA6⟩ := s36 A _ hA eA
      have hA7 : h7 A = none := by
        cases z : h7 A with
        | none => rfl
        | some u => have := w7 A u z; rw [hA6] at this; cases this
      -- the new list is hidden: its growth is seen by nobody
      have ne : ∀ c u, H6 c = some u → h6 c = none → c ≠ A → upd H6 A (.lst (av ++ [yv])) c = some u := fun c u e _ n => by rw [upd_ne n]; exact e
      have mo7 : Mo K H6 (upd H6 A (.lst (av ++ [yv]))) := by
        refine ⟨fun c ys q => ?_, fun c ys q => ?_⟩
        · rcases q with (q | ⟨o, q⟩) | q
          · exact .inl (.inl (by rw [upd_ne (ne_of q eA6 (by intro z; cases z))]; exact q))
          · exact .inl (.inr ⟨o, by rw [upd_ne (ne_of q eA6 (by intro z; cases z))]; exact q⟩)
          · exact .inr q
        · rcases q with ⟨o, q⟩ | q
          · exact .inl ⟨o, by rw [upd_ne (ne_of q eA6 (by intro z; cases z))]; exact q⟩
          · exact .inr q
      have r7 : RepH K h7 (upd H6 A (.lst (av ++ [yv]))) := fun c u e => by
        have nc : c ≠ A := fun z => by rw [z, hA7] at e; cases e
        exact (r6 c u (w7 c u e)).mono mo7 fun x f => by rw [upd_ne nc]; exact f
      refine ⟨av, eA6, ?_, a ++ [y], av ++ [yv], h7, upd_same, RepVs.mono mo7 _ (.of (P2.append (RepVs.mono m36 _ ra).pair (.cons ry .nil))), by rw [List.length_append, List.length_singleton]; omega, ?_, r7, hA7, (e2.mono m36).mono mo7, i7⟩
      · rw [← (RepVs.mono m36 _ ra).length]
        omega
      · intro c u e f
        obtain ⟨x1, x2⟩ := ((s2.trans s36).low w7) c u e f
        have nc : c ≠ A := fun z => by rw [z, nA] at f; cases f
        exact ⟨x1, by rw [upd_ne nc]; exact x2⟩
  · have e : i = xs.length := by omega
    subst e
    refine .inl ⟨so.st h2 H2 s2 r2 (st _ _ _ i2), ?_⟩
    have fq := fin a h2 i2 A hA
    refine hc (.ref A) (up h2 A (.lst a)) (.ref A) H2 ?_ ?_ rfl fq
    · intro c u x y
      obtain ⟨x1, y1⟩ := s1 c u x y
      have nc : c ≠ A := fun z => by rw [z, nA] at y1; cases y1
      obtain ⟨x2, y2⟩ := s2 c u x1 y1
      exact ⟨by rw [up_ne nc]; exact x2, y2⟩
    · intro c u x
      by_cases z : c = A
      · subst z
        rw [up_same] at x; cases x
        exact ⟨av, eA, ra⟩
      · rw [up_ne z] at x
        exact r2 c u x
theorem de_lc {elt tg iter : Expr} {ifs : List Expr} {scope : Scope} {own : List (Str × Nat)} {pos : Pos} {wi : I1} {g : G1} {tt : T1} {te : E1} (hc : X.calm = true) (hN : X.N.Nodup) (hi : DI X tg iter wi) (ok : BlkOk X.N X.env.scope scope own)
    (hg : ∀ (s : Shared) (H : Hp) (C : Addr) (cl : List (Str × Addr)) (fp : List Addr), DG (X.blk s H scope (compEnvC scope cl C X.env) fp) (Pw (own.map (·.2))) tg g) (ht : ∀ (s : Shared) (H : Hp) (C : Addr) (cl : List (Str × Addr)) (fp : List Addr), DTs (X.blk s H scope (compEnvC scope cl C X.env) fp) ifs tt)
    (he : ∀ (s : Shared) (H : Hp) (C : Addr) (cl : List (Str × Addr)) (fp : List Addr), DE (X.blk s H scope (compEnvC scope cl C X.env) fp) elt te) (hs : ∀ x, foldedSetIterable iter X.env x = pure x := by intro _; rfl) :
    DE X (.ListComp elt [⟨tg, iter, ifs, 0⟩] scope pos) (dLc wi g tt te (own.map (·.2))) := weakE (pe_lc hc hN hi ok hg ht he hs) fun _ _ _ q => low_lc q
theorem ds_setLc (i : Nat) {y : Str} {py : Pos} {elt tg iter : Expr} {ifs : List Expr} {scope : Scope} {own : List (Str × Nat)} {pos spos : Pos} {wi : I1} {g : G1} {tt : T1} {te : E1} (hc : X.calm = true) (hN : X.N.Nodup) (hy : X.N[i]? = some y) (hyl : X.env.scope.names.lookup y = some .local)
    (hsw : swapsWith (.ListComp elt [⟨tg, iter, ifs, 0⟩] scope pos) (some (.Name y py)) spos.line X.env = pure true) (hi : DI X tg iter wi) (ok : BlkOk X.N X.env.scope scope own)
    (hg : ∀ (s : Shared) (H : Hp) (C : Addr) (cl : List (Str × Addr)) (fp : List Addr), DG (X.blk s H scope (compEnvC scope cl C X.env) fp) (Pw (own.map (·.2))) tg g) (ht : ∀ (s : Shared) (H : Hp) (C : Addr) (cl : List (Str × Addr)) (fp : List Addr), DTs (X.blk s H scope (compEnvC scope cl C X.env) fp) ifs tt)
    (he : ∀ (s : Shared) (H : Hp) (C : Addr) (cl : List (Str × Addr)) (fp : List Addr), DE (X.blk s H scope (compEnvC scope cl C X.env) fp) elt te) (hs : ∀ x, foldedSetIterable iter X.env x = pure x := by intro _; rfl) :
    DS X (.Assign [.Name y py] (.ListComp elt [⟨tg, iter, ifs, 0⟩] scope pos) spos) (dAsg (dLc wi g tt te (own.map (·.2))) (gN i)) :=
  weakS (ps_setLc (i := i) hc hN hy hyl hsw hi ok hg ht he hs) fun DV σV H ⟨D, σ, h, hE, hH, ht, hcl⟩ => low_lc ⟨σ, h, _, hE, hH, ht, fun d h' v H' s' r' rv q => hcl.nx _ h' _ H' s' ((hE.mono (Stp.mo hH s')).put rv) r' q⟩
end
end DL
namespace DL
open PySem PySem.Spec PyProof.Rows L2
/-! ### promises of defs that are called where nothing is being shown (repr asks that) -/
structure RoomG (k : Nat) (A : Around) : Prop where
  r : Room k A
  g : A.guards = some []
theorem RoomG.mono {j k : Nat} {A : Around} (q : RoomG k A) (h : j ≤ k) : RoomG j A := ⟨q.r.mono h, q.g⟩
theorem RoomG.deeper {k : Nat} {A : Around} (q : RoomG (k + 1) A) (e : Env) : RoomG k (A.deeper e) := ⟨q.r.deeper e, q.g⟩
structure FnG (P : Program) (w : World) (K : PySem.W.Frag) (mg : Str → Option Value) (base : Heap) (k : Nat) (f : Addr) (fd : FuncData) (ps : List Str) (sp : Sp) : Prop where
  len : ∀ vs H Q E, sp vs H Q E → vs.length = ps.length
  run : ∀ (A : Around) (outer : List Env) (s : Shared) (H : Hp) (args : Args) (us : List Value) (vs : List V) (Q : VK) (E : XK), RoomG k A → Env0 P w K mg base A outer s H → BindsTo s fd args (ps.zip us) → Vals vs us → sp vs H Q E → codeAny (model P w) A (.call (.ref f) args) (CR CX0 outer P w H s Q E) s
section
variable {P : Program} {w : World} {K : PySem.W.Frag} {mg : Str → Option Value} {base : Heap} {j k : Nat} {f : Addr} {fd : FuncData} {ps : List Str} {sp sp' : Sp}
theorem FnG.mono (F : FnG P w K mg base j f fd ps sp) (h : j ≤ k) : FnG P w K mg base k f fd ps sp := ⟨F.len, fun A o s H a us vs Q E q => F.run A o s H a us vs Q E (q.mono h)⟩
theorem FnG.imp (F : FnG P w K mg base k f fd ps sp) (h : ∀ vs H Q E, sp' vs H Q E → sp vs H Q E) : FnG P w K mg base k f fd ps sp' := ⟨fun vs H Q E q => F.len vs H Q E (h _ _ _ _ q), fun A o s H a us vs Q E q e b v z => F.run A o s H a us vs Q E q e b v (h _ _ _ _ z)⟩
/-- a def by its body -/
theorem fng_of {x qual : Str} {st : Stmt} {N : List Str} (F : Fun K x qual st f fd) (S : FnScope N ps (defScope st)) (len : ∀ vs H Q E, sp vs H Q E → vs.length = ps.length)
    (hb : ∀ (cdv : Value) (A : Around) (outer : List Env) (s : Shared) (H : Hp) (vs : List V) (Q : VK) (E : XK), RoomG k (A.deeper (envOfC qual (defScope st) s.heap.objs.size f cdv)) → sp vs H Q E →
      ∃ t, PSs (cxOf CX0 P w K mg base N qual (defScope st) f cdv A outer s H E) (defBody st) t ∧ t { nx := fun _ H' => Q .non H', rt := Q } (start N vs) H) : FnG P w K mg base (k + 1) f fd ps sp := by
  obtain ⟨oc, od, kV, doc, pm, an, cdv, ct, osl, rfl, lk, hcd⟩ := F.ex
  refine ⟨len, fun A outer s H args us vs Q E q e0 bt rv hs => ?_⟩
  have len1 := len _ _ _ _ hs
  have Kin : K.In s.heap := e0.mod.kin.keeps fun b o e => (e0.bs b o e).1
  have noLim : s.heap.NoLimit := e0.mod.nolimit.keeps fun b o e => (e0.bs b o e).1
  have kinds : ∀ y ∈ ps.zip us, (defScope st).names.lookup y.1 = some .local ∨ ((defScope st).names.lookup y.1 = some .cell ∧ ((cellsFrom (s.heap.objs.size + 1) (defScope st).names []).lookup y.1).isSome = true) := fun ⟨n, v⟩ hy =>
    (S.par n (List.of_mem_zip hy).1).elim .inl fun z => .inr ⟨z, PySem.W.cellsFrom_some _ _ _ (.inl z)⟩
  refine codeAny_call_function q.r.depth (Kin _ _ lk) rfl S.co S.gen rfl (PySem.W.codeRec_of Kin hcd) (bt _ _ _ _ (wpAny_newFunctionEnv_cells S.kind kinds fun env he s1 x => ?_))
  subst he
  refine ⟨noLim.keeps x.toInCall.keep, codeAny_func ?_⟩
  obtain ⟨t, ht, hq⟩ := hb cdv A outer s H vs Q E (q.deeper _) hs
  have I0 : Inv (cxOf CX0 P w K mg base N qual (defScope st) f cdv A outer s H E) [] (start N vs) H s1 := inv_start S q.r.hd e0 len1 rv x
  refine wpAny_mono (ht.run [] s1 (start N vs) H _ I0 hq) (fun fl s' z => ?_) fun _ _ z => z
  have out : ∀ {σ' : L2.St} {H' : Hp} {v : V} {u : Value}, Inv (cxOf CX0 P w K mg base N qual (defScope st) f cdv A outer s H E) [] σ' H' s' → RelV v u → Q v H' → CE outer P w H s Q u s' := fun {_ H' v _} J rv y => ⟨v, H', J.os, J.bare, J.base, J.hok, rv, y⟩
  cases fl with
  | ret u => exact let ⟨_, _, _, J, rv, y⟩ := z; out J rv y
  | next => exact let ⟨_, _, J, y⟩ := z; out (v := V.non) (u := Value.none) J rfl y
  | brk => exact let ⟨_, _, _, y⟩ := z; y.elim
  | cont => exact let ⟨_, _, _, y⟩ := z; y.elim
end
section
variable {X : Cx} {k : Nat} {f : Addr} {fd : FuncData} {ps : List Str} {sp : Sp} {E : XK} {x : Str} {p pos : Pos} {e : Expr} {es : List Expr} {t : TA}
theorem run_g {pins : List (Addr × Obj)} {σ : L2.St} {H : Hp} {s : Shared} {Q : VK} {us : List Value} {vs : List V} (F : FnG X.prog X.w X.K X.mg X.base k f fd ps sp) (q : RoomG k X.A) (b : Binds X.K fd ps []) (hx : Passes CX0 X E)
    (I : Inv X pins σ H s) (r : Vals vs us) (h : sp vs H Q E) : wpAny (model X.prog X.w) X.A (call (.ref f) us) (EP X pins σ Q) X.xe s := by
  have hl : (us ++ []).length = ps.length := by rw [List.append_nil, ← r.length]; exact F.len _ _ _ _ h
  have bt := b s us I.kIn hl
  rw [List.append_nil] at bt
  refine wpAny_call (codeAny_mono (F.run X.A X.stack s H ⟨us, []⟩ us vs Q E q I.env0 bt r h) fun r s' z => ?_)
  match r, z with
  | .error e, z => exact hx pins σ H s e s' I z
  | .ok (.ret u), z => exact I.after z
  | .ok .next, z => exact False.elim z
  | .ok .brk, z => exact False.elim z
  | .ok .cont, z => exact False.elim z
def tCallG (sp : Sp) (E : XK) (t : TA) : TE := fun σ H Q => t σ H fun vs H1 => sp vs H1 Q E
theorem pe_callG (F : FnG X.prog X.w X.K X.mg X.base k f fd ps sp) (q : RoomG k X.A) (hg : Gl X x) (hm : X.mg x = some (.ref f)) (hk : PySem.W.keepIn X.K (.ref f) = true) (hb : Binds X.K fd ps []) (hx : Passes CX0 X E)
    (ha : PA X (e :: es) t) (hdb : (x == ("__debug__" : Str)) = false := by decide) (he : starEach (e :: es) X.env = (false, eval e X.env) :: starEach es X.env := by rfl) (hpl : (backTo pos (starEach es X.env)).any (·.1) = false := by rfl) :
    PE X (.Call (.Name x p) (e :: es) [] pos) (tCallG sp E t) := ⟨fun pins s σ H Q I h =>
  wpAny_Call_Name_kw (ld_glob I hg hm (PySem.W.callWith_K (h₀ := X.base) I.ok.mod.kin hk (thn (ha.run pos pins s σ H _ I h) fun us s1 ⟨vs, H1, I1, r, z⟩ => ⟨I1.kIn, run_g F q hb hx I1 r z⟩) he hpl) hdb)⟩
theorem pe_callG0 (F : FnG X.prog X.w X.K X.mg X.base k f fd ps sp) (q : RoomG k X.A) (hg : Gl X x) (hm : X.mg x = some (.ref f)) (hk : PySem.W.keepIn X.K (.ref f) = true) (hb : Binds X.K fd ps []) (hx : Passes CX0 X E)
    (hdb : (x == ("__debug__" : Str)) = false := by decide) : PE X (.Call (.Name x p) [] [] pos) (tCallG sp E tNil) := ⟨fun pins s σ H Q I h =>
  wpAny_Call_Name_kw (ld_glob I hg hm (PySem.W.callWith_K0 I.kIn hk (run_g (us := []) F q hb hx I .nil h)) hdb)⟩
end
/-- the law's own call -/
theorem law_callG {P : Program} {w : World} {K : PySem.W.Frag} {mg mb : Str → Option Value} {k : Nat} {fa a : Addr} {fd : FuncData} {x : Str} {sp : Sp} {s : Shared} {vs : List Value} {ns : List Int}
    (KX : K.In s.heap) (hns : s.heap.Ns mainGlobals mg) (hb : s.heap.Ns builtinsNs mb) (hbb : ∀ x : Str, x ≠ "__name__" → mb x = bootBuiltins x) (lim : s.heap.NoLimit) (hg : s.gens = #[])
    (ha : s.heap.get? a = some { cls := .type "list", data := .seq vs.toArray }) (hi : IntsAre vs ns) (hl : ns.length ≤ sizeLine) (hr : RoomG k callerA)
    (F : ∀ base : Heap, K.In base → base.Ns mainGlobals mg → FnG P w K mg base k fa fd [x] sp) (bt : ∀ (s : Shared) (u : Value), BindsTo s fd ⟨[u], []⟩ [(x, u)])
    (hsp : ∀ H : Hp, Only H → SqL K H a (ns.map V.int) → sp [.ref a] H (fun v _ => v = .bl true) fun _ _ _ => False) :
    codeAny (model P w) callerA (.call (.ref fa) ⟨[.ref a], []⟩) (fun r s' => r = .ok (.ret (.bool true)) ∧ OldK s.heap s'.heap ∧ s'.os = s.os ∧ AllBare s'.gens) s := by
  have rv := vals_ints hi
  have core : ∀ H : Hp, Only H → SqL K H a (ns.map V.int) → HOk P w H s.heap → (∀ b, H b ≠ none → b = a) → (H a ≠ none → K.lookup a = none) → codeAny (model P w) callerA (.call (.ref fa) ⟨[.ref a], []⟩) (fun r s' => r = .ok (.ret (.bool true)) ∧ OldK s.heap s'.heap ∧ s'.os = s.os ∧ AllBare s'.gens) s := fun H only sq ok at_ free => by
    have dictFree : ∀ {b : Addr} {o : Obj} {es : Array DictEntry} {ep : Nat}, s.heap.get? b = some o → o.data = .dict es ep → H b = none := fun {b o es ep} e d => Classical.byContradiction fun n => by
      cases at_ b n
      rw [ha] at e; cases e
      exact nomatch (show Data.seq vs.toArray _ = Data.dict es ep from d)
    have keepNs : ∀ {b : Addr} {m : Str → Option Value}, s.heap.Ns b m → (hidT s.heap H).Ns b m := fun {b m} ⟨o, es, ep, e, d, r⟩ => ⟨o, es, ep, hidT_get e (dictFree e d), d, r⟩
    have KB : K.In (hidT s.heap H) := fun b o e => hidT_get (KX b o e) (Classical.byContradiction fun n => by
      cases at_ b n
      rw [free n] at e; cases e)
    have e0 : Env0 P w K mg (hidT s.heap H) callerA [] s H := ⟨rfl, ⟨KB, keepNs hns, ⟨mb, keepNs hb, hbb⟩, let ⟨mc, z1, z2⟩ := lim; ⟨mc, keepNs z1, z2⟩⟩, fun b o e => of_hidT e, Nat.le_of_eq (hidT_size _ _), trivial, fun b z => absurd (show b ∈ ([] : List Addr) from z) (by simp), ok, .of_eq hg⟩
    refine codeAny_mono ((F _ KB (keepNs hns)).run callerA [] s H ⟨[.ref a], []⟩ [.ref a] [.ref a] _ _ hr e0 (bt s (.ref a)) (.cons rfl .nil) (hsp H only sq)) fun r s' z => ?_
    match r, z with
    | .error e, z => exact (show False from z).elim
    | .ok .next, z => exact False.elim z
    | .ok .brk, z => exact False.elim z
    | .ok .cont, z => exact False.elim z
    | .ok (.ret u), z =>
      obtain ⟨v, H', os, bare, un, ok', r', q⟩ := z
      cases (show v = .bl true from q)
      cases (show u = Value.bool true from r')
      refine ⟨rfl, OldK.of_keep fun b o e => ?_, os, bare⟩
      cases q : H b with
      | none => exact un.keep b o e q (fun z => absurd (show b ∈ ([] : List Addr) from z) (by simp)) (by simp)
      | some u =>
        rcases only b with z | ⟨ob, xs, z⟩
        · rw [q] at z; cases z
        · obtain ⟨e1, _⟩ := ok b _ z
          obtain ⟨e2, _⟩ := ok' b _ (un.frzs b ob _ z)
          rw [e] at e1; cases e1
          exact e2
  have size : vs.toArray.size ≤ sizeLine := by rw [List.size_toArray, hi.length]; exact hl
  cases hk : K.lookup a with
  | some o =>
    have e := KX a o hk
    rw [ha] at e; cases e
    exact core (fun _ => none) (fun _ => .inl rfl) (.inr ⟨_, vs.toArray, _, hk, rfl, rfl, rfl, size, by simpa using rv⟩) (fun _ _ z => nomatch z) (fun _ z => absurd rfl z) fun z => absurd rfl z
  | none =>
    have other : ∀ {b : Addr} {o : HO}, (fun c => if c = a then some o else (none : Option HO)) b ≠ none → b = a := fun {b o} z => Classical.byContradiction fun n => z (if_neg n)
    refine core (fun b => if b = a then some (.frz { cls := .type "list", data := .seq vs.toArray } (.lst (ns.map V.int))) else none) (fun b => ?_) (.inl (.inr ⟨_, if_pos rfl⟩)) (fun b u z => ?_) (fun _ z => other z) fun _ => hk
    · by_cases n : b = a
      · exact .inr ⟨_, _, if_pos n⟩
      · exact .inl (if_neg n)
    · cases other (b := b) (fun n => by rw [z] at n; cases n)
      cases (if_pos rfl).symm.trans z
      exact ⟨ha, by rw [List.length_map]; exact hl, vs, _, rv, ha⟩
theorem walk_ofG {l : PySem.W.OpenLaw} {n k : Nat} {q : Program} {loose : List Str} {XP : (Str → Option Value) → Heap → Prop} {YP : World → Heap → Prop} {d : DefRec} {K : Params → PySem.W.Frag} {sp : PySem.W.Frag → Sp} {x : Str}
    (hn : l.most = some n) (hn2 : n ≤ sizeLine) (hdf : d.params.defaults = []) (hr : RoomG k callerA) (hY : ∀ (w : World) (h : Heap), YP w h → (K w.params).In h)
    (F : ∀ (w : World) (mg : Str → Option Value) (fa : Addr) (h : Heap), (K w.params).In h → h.Ns mainGlobals mg → mg d.name = some (.ref fa) →
      ∃ fd : FuncData, (∀ (s : Shared) (u : Value), BindsTo s fd ⟨[u], []⟩ [(x, u)]) ∧ ∀ base : Heap, (K w.params).In base → base.Ns mainGlobals mg → FnG l.prog w (K w.params) mg base k fa fd [x] (sp (K w.params)))
    (hsp : ∀ (K : PySem.W.Frag) (H : Hp) (a : Addr) (ns : List Int), ns.length ≤ n → Only H → SqL K H a (ns.map V.int) → sp K [.ref a] H (fun v _ => v = .bl true) fun _ _ _ => False) :
    PySem.W.WalkO q loose XP YP l.row.toRowW d [] (fun f vs => PySem.call f vs) := Att.attach_call hn hdf fun w s₀ s₁ mg mb fa o pm cd doc a vs ns G Y ho hd hcd hmg hobj hints hlen hg =>
  let ⟨fd, hb, hF⟩ := F w mg fa _ (hY w _ Y) G.T.g hmg
  law_callG (hY w _ Y) G.T.g G.T.b G.T.builtins G.T.nolimit hg hobj hints (Nat.le_trans hlen hn2) hr hF hb fun H only sq => hsp _ H a ns hlen only sq
end DL
namespace DL
open PySem PySem.Spec PyProof.Rows L2
section
variable {X : Cx}
/-! ### arguments, displays -/
def dNil : A1 := fun _ h Q => Q [] h
def dCons (t : E1) (r : A1) : A1 := fun σ h Q => t σ h fun x h1 => r σ h1 fun xs h2 => Q (x :: xs) h2
theorem da_nil : DA X [] dNil := weakA pa_nil fun σV H QV ⟨σ, h, Q, hE, hH, ht, hc⟩ => hc [] h [] H Stp.refl hH rfl ht
theorem da_cons {e : Expr} {es : List Expr} {t : E1} {r : A1} (a : DE X e t) (b : DA X es r) (hs : starEach (e :: es) X.env = (false, eval e X.env) :: starEach es X.env := by rfl) : DA X (e :: es) (dCons t r) :=
  weakA (pa_cons a b hs) fun σV H QV ⟨σ, h, Q, hE, hH, ht, hc⟩ => by
    refine ⟨σ, h, _, hE, hH, ht, fun x h1 v H1 s1 hH1 r1 q1 => ?_⟩
    refine ⟨σ, h1, _, hE.mono (Stp.mo hH s1), hH1, q1, fun xs h2 vs H2 s2 hH2 r2 q2 => ?_⟩
    exact hc (x :: xs) h2 _ H2 (s1.trans s2) hH2 (RepVs.cons (RepV.mono (Stp.mo hH1 s2) _ r1) r2) q2
def dTup (t : A1) : E1 := fun σ h Q => t σ h fun ds h1 => ds.length ≤ sizeLine ∧ Q (.tup ds) h1
def dLst (t : A1) : E1 := fun σ h Q => t σ h fun ds h1 => ds.length ≤ sizeLine ∧ ∀ p, h1 p = none → Q (.ref p) (up h1 p (.lst ds))
theorem de_tup {es : List Expr} {t : A1} {k : Nat} {pos : Pos} (a : DA X es t) : DE X (.Tuple es k pos) (dTup t) := weakE (pe_tup a) fun σV H QV ⟨σ, h, Q, hE, hH, ht, hc⟩ =>
  ⟨σ, h, _, hE, hH, ht, fun ds h1 vs H1 s1 hH1 r1 q => ⟨by rw [← r1.length]; exact q.1, fun p n => (hc.step s1).tup hH1 n r1 q.2⟩⟩
theorem de_lst {es : List Expr} {t : A1} {pos : Pos} (a : DA X es t) : DE X (.List es pos) (dLst t) := weakE (pe_lst a) fun σV H QV ⟨σ, h, Q, hE, hH, ht, hc⟩ =>
  ⟨σ, h, _, hE, hH, ht, fun ds h1 vs H1 s1 hH1 r1 q => ⟨by rw [← r1.length]; exact q.1, fun p n => (hc.step s1).new hH1 n r1 (q.2 p (hH1.nofresh n))⟩⟩
/-! ### calls of built-ins -/
abbrev C1 := List D → MH → KD → Prop
def lowC (K : KW) (r : C1) : List V → Hp → VK → Prop := fun vs H QV => ∃ ds h Q, RepVs K H ds vs ∧ RepH K h H ∧ r ds h Q ∧ Cl K h H Q QV
def dCall (r : C1) (t : A1) : E1 := fun σ h Q => t σ h fun ds h1 => r ds h1 Q
theorem low_call {K : KW} {r : C1} {t : A1} {σV : L2.St} {H : Hp} {QV : VK} (q : lowE K (dCall r t) σV H QV) : tCB (lowC K r) (lowA K t) σV H QV := by
  obtain ⟨σ, h, Q, hE, hH, ht, hc⟩ := q
  exact ⟨σ, h, _, hE, hH, ht, fun ds h1 vs H1 s1 hH1 r1 q => ⟨ds, h1, Q, r1, hH1, q, hc.step s1⟩⟩
theorem callR_of {f : Value} {r' : List V → Hp → VK → Prop} (h : ∀ xs H Q, r' xs H Q → ∃ r, CallR X f r ∧ r xs H Q) : CallR X f r' := fun pins s σ H xs us Q I rx hr =>
  let ⟨r, ho, hq⟩ := h xs H Q hr
  ho pins s σ H xs us Q I rx hq
theorem de_callB {id : String} {r : C1} {x : Str} {e : Expr} {es : List Expr} {t : A1} {p pos : Pos} (hc : CallR X (.builtin id) (lowC X.kw r)) (hg : Gl X x) (hm : X.mg x = none) (hv : bootBuiltins x = some (.builtin id)) (ha : DA X (e :: es) t) (hn : x ≠ "__name__" := by decide) (hdb : (x == ("__debug__" : Str)) = false := by decide)
    (he : starEach (e :: es) X.env = (false, eval e X.env) :: starEach es X.env := by rfl) (hpl : (backTo pos (starEach es X.env)).any (·.1) = false := by rfl) : DE X (.Call (.Name x p) (e :: es) [] pos) (dCall r t) :=
  weakE (pe_callB hc hg hm hv ha hn hdb he hpl) fun _ _ _ q => low_call q
theorem de_callTy {T : String} {r : C1} {x : Str} {e : Expr} {es : List Expr} {t : A1} {p pos : Pos} (hc : CallR X (.type T) (lowC X.kw r)) (hg : Gl X x) (hm : X.mg x = none) (hv : bootBuiltins x = some (.type T)) (ha : DA X (e :: es) t) (hn : x ≠ "__name__" := by decide) (hdb : (x == ("__debug__" : Str)) = false := by decide)
    (he : starEach (e :: es) X.env = (false, eval e X.env) :: starEach es X.env := by rfl) (hpl : (backTo pos (starEach es X.env)).any (·.1) = false := by rfl) : DE X (.Call (.Name x p) (e :: es) [] pos) (dCall r t) :=
  weakE (pe_callTy hc hg hm hv ha hn hdb he hpl) fun _ _ _ q => low_call q
theorem de_ty {T : String} {x : Str} {pos : Pos} (hg : Gl X x) (hm : X.mg x = none) (hv : bootBuiltins x = some (.type T)) (hn : x ≠ "__name__" := by decide) (hd : (x == ("__debug__" : Str)) = false := by decide) : DE X (.Name x pos) (dC (.ty T)) :=
  de_c (pe_bltn (v := .ty T) hg hm hv rfl hn hd) fun _ => rfl
theorem rep1 {K : KW} {H : Hp} {d : D} {vs : List V} (r : RepVs K H [d] vs) : ∃ v, vs = [v] ∧ RepV K H d v := by
  obtain ⟨v, u, rfl, a, b⟩ := r
  cases (show u = [] from b)
  exact ⟨v, rfl, a⟩
theorem rep2 {K : KW} {H : Hp} {d e : D} {vs : List V} (r : RepVs K H [d, e] vs) : ∃ v u, vs = [v, u] ∧ RepV K H d v ∧ RepV K H e u := by
  obtain ⟨v, u, rfl, a, b⟩ := r
  obtain ⟨w, rfl, c⟩ := rep1 b
  exact ⟨v, w, rfl, a, c⟩
def on1 (r : D → MH → KD → Prop) : C1 := fun ds h Q => match ds with
  | [d] => r d h Q
  | _ => False
def on2 (r : R1) : C1 := fun ds h Q => match ds with
  | [d, e] => r d e h Q
  | _ => False
theorem on1_inv {r : D → MH → KD → Prop} {ds : List D} {h : MH} {Q : KD} (q : on1 r ds h Q) : ∃ d, ds = [d] ∧ r d h Q := by
  unfold on1 at q
  split at q
  · exact ⟨_, rfl, q⟩
  · exact q.elim
theorem on2_inv {r : R1} {ds : List D} {h : MH} {Q : KD} (q : on2 r ds h Q) : ∃ d e, ds = [d, e] ∧ r d e h Q := by
  unfold on2 at q
  split at q
  · exact ⟨_, _, rfl, q⟩
  · exact q.elim
theorem callR_1 {f : Value} {r : D → MH → KD → Prop} (h : ∀ (x : V) (d : D) (h : MH) (H : Hp) (Q : KD) (QV : VK), RepV X.kw H d x → RepH X.kw h H → r d h Q → Cl X.kw h H Q QV → ∃ r, CallR X f r ∧ r [x] H QV) : CallR X f (lowC X.kw (on1 r)) :=
  callR_of fun xs H QV ⟨ds, m, Q, rv, hH, hr, hc⟩ => by
    obtain ⟨d, rfl, q⟩ := on1_inv hr
    obtain ⟨x, rfl, rx⟩ := rep1 rv
    exact h x d m H Q QV rx hH q hc
theorem callR_2 {f : Value} {r : R1} (h : ∀ (x y : V) (d e : D) (h : MH) (H : Hp) (Q : KD) (QV : VK), RepV X.kw H d x → RepV X.kw H e y → RepH X.kw h H → r d e h Q → Cl X.kw h H Q QV → ∃ r, CallR X f r ∧ r [x, y] H QV) : CallR X f (lowC X.kw (on2 r)) :=
  callR_of fun xs H QV ⟨ds, m, Q, rv, hH, hr, hc⟩ => by
    obtain ⟨d, e, rfl, q⟩ := on2_inv hr
    obtain ⟨x, y, rfl, rx, ry⟩ := rep2 rv
    exact h x y d e m H Q QV rx ry hH q hc
def seqK (k : List D → Prop) : Option (List D) → Prop
  | some ds => k ds
  | none => False
/-- len -/
def lenO (h : MH) (Q : KD) : Option MO → Prop
  | some (.lst ds) => Q (.int ds.length) h
  | some (.dic kvs) => Q (.int kvs.length) h
  | _ => False
def lenD (x : D) (h : MH) (Q : KD) : Prop := match x with
  | .str z => Q (.int z.length) h
  | .tup ds => Q (.int ds.length) h
  | .rol ds => Q (.int ds.length) h
  | .ref a => lenO h Q (h a)
  | _ => False
def rLenN (X : Cx) : List V → Hp → VK → Prop := fun vs H Q => ∃ a kvs, vs = [.ref a] ∧ RepO X.kw H a (.dic kvs) ∧ Q (.int kvs.length) H
theorem call_lenN : CallR X (.builtin "len") (rLenN X) := by
  intro pins s σ H xs us Q I rx ⟨a, kvs, ex, ro, q⟩
  rcases id ro with ⟨kv, e, r⟩ | ⟨xs', r⟩
  · exact call_lenD pins s σ H xs us Q I rx ⟨a, kv, ex, e, by rw [← r.length]; exact q⟩
  · subst ex
    cases rx with
    | cons r1 r2 =>
      cases r2
      cases r1
      have low := r.low
      have D : NDict X H a xs' := ⟨r.at_, r.low, by rw [← r.rep.length]; exact r.len, r.rep.keys r.tup, r.nd⟩
      have hl := r.len
      rw [sizeLine_eq] at hl
      have el : xs'.length = kvs.length := r.rep.length.symm
      obtain ⟨ys, dh, p⟩ := D.heap I
      have ey : (pairsH ys).length = kvs.length := by rw [pairsH_length, ← p.length]; exact el
      refine PyProof.Rows.call_len_slot (n := kvs.length) (dic_type I ro) PySem.F.slot_dict_len (fun Q' hq => len_keyed (knd := nkd X) low ⟨ys, dh, rfl⟩ (by rw [ey]; exact hq)) (by omega) (by omega) ?_
      exact ⟨.int _, H, I.tok _, ⟨_, rfl⟩, q⟩
theorem xd_len : CallR X (.builtin "len") (lowC X.kw (on1 lenD)) := callR_1 fun x d h H Q QV rx hH hr hc => by
  have sq : ∀ {a : Addr} {vs : List V} {ds : List D}, x = .ref a → (SqL X.K H a vs ∨ SqT X.K H a vs) → RepVs X.kw H ds vs → Q (.int ds.length) h → ∃ r, CallR X (.builtin "len") r ∧ r [x] H QV := by
    rintro a vs ds rfl hs rv hr
    refine ⟨_, call_len_seq, a, vs, rfl, hs, ?_⟩
    rw [← rv.length]
    exact hc.int hH hr
  cases d with
  | str z =>
    obtain ⟨rfl, ok⟩ := rx
    exact ⟨_, call_len_str, z, rfl, ok.1, hc.int hH hr⟩
  | tup ds => obtain ⟨a, vs, ex, st, rs⟩ := rx; exact sq ex (.inr st) rs hr
  | rol ds => obtain ⟨a, vs, ex, st, rs⟩ := rx; exact sq ex (.inl st.sq) rs hr
  | ref a =>
    have ex : x = .ref a := rx
    have hr : lenO h Q (h a) := hr
    cases q : h a with
    | none => rw [q] at hr; exact hr.elim
    | some o =>
      rw [q] at hr
      cases o with
      | lst ds =>
        obtain ⟨vs, eH, rs⟩ := hH a _ q
        exact sq ex (.inl (SqL.of eH)) rs hr
      | dic kvs =>
        subst ex
        exact ⟨_, call_lenN, a, kvs, rfl, hH a _ q, hc.int hH hr⟩
      | ins _ _ => exact hr.elim
  | _ => exact hr.elim
/-- tuple(xs) -/
def tupleD (x : D) (h : MH) (Q : KD) : Prop := seqK (fun ds => Q (.tup ds) h) (seqOf h x)
theorem xd_tuple : CallR X (.type "tuple") (lowC X.kw (on1 tupleD)) := callR_1 fun x d h H Q QV rx hH hr hc => by
  unfold tupleD at hr
  cases q : seqOf h d with
  | none => rw [q] at hr; exact hr.elim
  | some ds =>
    rw [q] at hr
    obtain ⟨a, vs, rfl, rv, hs⟩ := seq_rep hH rx q
    refine ⟨_, call_tuple_of, a, vs, rfl, ?_⟩
    rcases hs with hs | hs
    · exact .inl ⟨hs, fun l n => hc.tup hH n rv hr⟩
    · exact .inr ⟨hs, hc.val hH (d := .tup ds) ⟨a, vs, rfl, hs, rv⟩ hr⟩
/-- list(xs) -/
def listD (x : D) (h : MH) (Q : KD) : Prop := seqK (fun ds => ∀ p, h p = none → Q (.ref p) (up h p (.lst ds))) (seqOf h x)
theorem xd_list : CallR X (.type "list") (lowC X.kw (on1 listD)) := callR_1 fun x d h H Q QV rx hH hr hc => by
  unfold listD at hr
  cases q : seqOf h d with
  | none => rw [q] at hr; exact hr.elim
  | some ds =>
    rw [q] at hr
    obtain ⟨a, vs, rfl, rv, hs⟩ := seq_rep hH rx q
    exact ⟨_, call_list_of, a, vs, rfl, hs, fun l n => hc.new hH n rv (hr l (hH.nofresh n))⟩
/-- abs, int -/
def absD (x : D) (h : MH) (Q : KD) : Prop := match x with
  | .int i => Q (.int (if i < 0 then -i else i)) h
  | _ => False
theorem xd_abs : CallR X (.builtin "abs") (lowC X.kw (on1 absD)) := callR_1 fun x d h H Q QV rx hH hr hc => by
  cases d <;> try exact hr.elim
  case int i =>
    cases (show x = _ from rx)
    exact ⟨_, call_abs, i, rfl, hc.int hH hr⟩
def intD (x : D) (h : MH) (Q : KD) : Prop := match x with
  | .int i => Q (.int i) h
  | .bool b => Q (.int (if b = true then 1 else 0)) h
  | _ => False
theorem xd_int : CallR X (.type "int") (lowC X.kw (on1 intD)) := callR_1 fun x d h H Q QV rx hH hr hc => by
  cases d <;> try exact hr.elim
  case int i =>
    cases (show x = _ from rx)
    exact ⟨_, call_int1, .inl ⟨i, rfl, hc.int hH hr⟩⟩
  case bool b =>
    cases (show x = _ from rx)
    exact ⟨_, call_int1, .inr ⟨b, rfl, hc.int hH hr⟩⟩
/-- isinstance -/
def tyS (o : Option MO) : Option String := match o with
  | some (.lst _) => some "list"
  | _ => none
def tyN (h : MH) : D → Option String
  | .none => some "NoneType"
  | .bool _ => some "bool"
  | .int _ => some "int"
  | .str _ => some "str"
  | .tup _ => some "tuple"
  | .rol _ => some "list"
  | .ref a => tyS (h a)
  | .ty _ => none
def kitK (k : Bool → Prop) : Option Bool → Prop
  | some b => k b
  | none => False
def isiK (n : String) (k : Bool → Prop) : Option String → Prop
  | some t => kitK k (kitB t n)
  | none => False
def isiD : R1 := fun x y h Q => match y with
  | .ty n => isiK n (fun b => Q (.bool b) h) (tyN h x)
  | _ => False
theorem ty_rep {h : MH} {H : Hp} (hH : RepH X.kw h H) : ∀ {d : D} {v : V} {t : String}, RepV X.kw H d v → tyN h d = some t → TyX X.K H v (.type t)
  | .none, _, _, r, e => by cases e; cases (show _ = _ from r); exact .base .non
  | .bool b, _, _, r, e => by cases e; cases (show _ = _ from r); exact .base (.bl b)
  | .int i, _, _, r, e => by cases e; cases (show _ = _ from r); exact .base (.int i)
  | .str z, _, _, r, e => by cases e; obtain ⟨rfl, _⟩ := r; exact .base (.str z)
  | .tup ds, _, _, r, e => by
    cases e
    obtain ⟨a, vs, rfl, s, _⟩ := r
    rcases s with (s | ⟨o, s⟩) | ⟨o, its, n, s, c, _⟩
    · exact .base (.tup s)
    · exact .fTuple s
    · exact .kTuple s c
  | .rol ds, _, _, r, e => by
    cases e
    obtain ⟨a, vs, rfl, s, _⟩ := r
    rcases s with ⟨o, s⟩ | ⟨o, its, n, s, c, _⟩
    · exact .base (.frz s)
    · exact .kList s c
  | .ref a, _, t, r, e => by
    cases (show _ = V.ref a from r)
    have e : tyS (h a) = some t := e
    cases q : h a with
    | none => rw [q] at e; cases e
    | some o =>
      cases o with
      | lst ds =>
        rw [q] at e; cases e
        obtain ⟨vs, eH, _⟩ := hH a _ q
        exact .base (.lst eH)
      | dic _ => rw [q] at e; cases e
      | ins _ _ => rw [q] at e; cases e
  | .ty _, _, _, _, e => by cases e
theorem xd_isi : CallR X (.builtin "isinstance") (lowC X.kw (on2 isiD)) := callR_2 fun x y d e h H Q QV rx ry hH hr hc => by
  cases e <;> try exact hr.elim
  case ty n =>
    cases (show y = _ from ry)
    have hr : isiK n (fun b => Q (.bool b) h) (tyN h d) := hr
    cases q : tyN h d with
    | none => rw [q] at hr; exact hr.elim
    | some t =>
      rw [q] at hr
      have hr : kitK (fun b => Q (.bool b) h) (kitB t n) := hr
      cases q2 : kitB t n with
      | none => rw [q2] at hr; exact hr.elim
      | some b =>
        rw [q2] at hr
        exact ⟨_, call_isi, x, .ty n, .type t, .type n, b, rfl, .ty n, ty_rep hH rx q, kit_ty q2, hc.bl hH hr⟩
/-- all, any, sum -/
def blsOf : List D → Option (List Bool)
  | [] => some []
  | .bool b :: r => (blsOf r).map (b :: ·)
  | _ :: _ => none
def intsOf : List D → Option (List Int)
  | [] => some []
  | .int b :: r => (intsOf r).map (b :: ·)
  | _ :: _ => none
def strsOf : List D → Option (List Str)
  | [] => some []
  | .str b :: r => (strsOf r).map (b :: ·)
  | _ :: _ => none
theorem blsOf_rep {K : KW} {H : Hp} : ∀ {ds : List D} {vs : List V} {bs : List Bool}, RepVs K H ds vs → blsOf ds = some bs → vs = bs.map V.bl
  | [], _, _, r, e => by cases e; exact r
  | .bool b :: ds, _, bs, r, e => by
    obtain ⟨v, u, rfl, h1, h2⟩ := r
    unfold blsOf at e
    cases q : blsOf ds with
    | none => rw [q] at e; cases e
    | some cs => rw [q] at e; cases e; rw [blsOf_rep h2 q]; cases (show v = _ from h1); rfl
  | .none :: _, _, _, _, e => by cases e
  | .int _ :: _, _, _, _, e => by cases e
  | .str _ :: _, _, _, _, e => by cases e
  | .tup _ :: _, _, _, _, e => by cases e
  | .rol _ :: _, _, _, _, e => by cases e
  | .ref _ :: _, _, _, _, e => by cases e
  | .ty _ :: _, _, _, _, e => by cases e
theorem intsOf_rep {K : KW} {H : Hp} : ∀ {ds : List D} {vs : List V} {bs : List Int}, RepVs K H ds vs → intsOf ds = some bs → vs = bs.map V.int
  | [], _, _, r, e => by cases e; exact r
  | .int b :: ds, _, bs, r, e => by
    obtain ⟨v, u, rfl, h1, h2⟩ := r
    unfold intsOf at e
    cases q : intsOf ds with
    | none => rw [q] at e; cases e
    | some cs => rw [q] at e; cases e; rw [intsOf_rep h2 q]; cases (show v = _ from h1); rfl
  | .none :: _, _, _, _, e => by cases e
  | .bool _ :: _, _, _, _, e => by cases e
  | .str _ :: _, _, _, _, e => by cases e
  | .tup _ :: _, _, _, _, e => by cases e
  | .rol _ :: _, _, _, _, e => by cases e
  | .ref _ :: _, _, _, _, e => by cases e
  | .ty _ :: _, _, _, _, e => by cases e
theorem strsOf_rep {K : KW} {H : Hp} : ∀ {ds : List D} {vs : List V} {bs : List Str}, RepVs K H ds vs → strsOf ds = some bs → vs = bs.map V.str ∧ ∀ z ∈ bs, okS z
  | [], _, _, r, e => by cases e; exact ⟨r, fun _ z => by cases z⟩
  | .str b :: ds, _, bs, r, e => by
    obtain ⟨v, u, rfl, h1, h2⟩ := r
    unfold strsOf at e
    cases q : strsOf ds with
    | none => rw [q] at e; cases e
    | some cs =>
      rw [q] at e; cases e
      obtain ⟨a, b'⟩ := strsOf_rep h2 q
      obtain ⟨rfl, ok⟩ := h1
      exact ⟨by rw [a]; rfl, fun z hz => (List.mem_cons.mp hz).elim (fun e => e ▸ ok) (b' z)⟩
  | .none :: _, _, _, _, e => by cases e
  | .bool _ :: _, _, _, _, e => by cases e
  | .int _ :: _, _, _, _, e => by cases e
  | .tup _ :: _, _, _, _, e => by cases e
  | .rol _ :: _, _, _, _, e => by cases e
  | .ref _ :: _, _, _, _, e => by cases e
  | .ty _ :: _, _, _, _, e => by cases e
theorem blsOf_map (bs : List Bool) : blsOf (bs.map D.bool) = some bs := by
  induction bs with
  | nil => rfl
  | cons b r ih => show (blsOf (r.map D.bool)).map (b :: ·) = _; rw [ih]; rfl
theorem intsOf_map (bs : List Int) : intsOf (bs.map D.int) = some bs := by
  induction bs with
  | nil => rfl
  | cons b r ih => show (intsOf (r.map D.int)).map (b :: ·) = _; rw [ih]; rfl
theorem strsOf_map (bs : List Str) : strsOf (bs.map D.str) = some bs := by
  induction bs with
  | nil => rfl
  | cons b r ih => show (strsOf (r.map D.str)).map (b :: ·) = _; rw [ih]; rfl
def blsK (k : List Bool → Prop) (h : MH) : D → Prop
  | .ref a => seqK (fun ds => ∃ bs, blsOf ds = some bs ∧ k bs) (seqO (h a))
  | .rol ds => ∃ bs, blsOf ds = some bs ∧ k bs
  | _ => False
def allD (x : D) (h : MH) (Q : KD) : Prop := blsK (fun bs => Q (.bool (bs.all id)) h) h x
def anyD (x : D) (h : MH) (Q : KD) : Prop := blsK (fun bs => Q (.bool (bs.any id)) h) h x
theorem blsK_rep {k : List Bool → Prop} {h : MH} {H : Hp} (hH : RepH X.kw h H) {d : D} {v : V} (r : RepV X.kw H d v) (q : blsK k h d) : ∃ a bs, v = .ref a ∧ SqL X.K H a (bs.map V.bl) ∧ k bs := by
  cases d <;> try exact q.elim
  case ref a =>
    cases (show v = _ from r)
    have q : seqK (fun ds => ∃ bs, blsOf ds = some bs ∧ k bs) (seqO (h a)) := q
    cases e : h a with
    | none => rw [e] at q; exact q.elim
    | some o =>
      cases o with
      | lst ds =>
        rw [e] at q
        obtain ⟨bs, e1, kb⟩ := q
        obtain ⟨vs, eH, rv⟩ := hH a _ e
        have := blsOf_rep rv e1
        subst this
        exact ⟨a, bs, rfl, SqL.of eH, kb⟩
      | dic _ => rw [e] at q; exact q.elim
      | ins _ _ => rw [e] at q; exact q.elim
  case rol ds =>
    obtain ⟨a, vs, rfl, s, rv⟩ := r
    obtain ⟨bs, e1, kb⟩ := q
    have := blsOf_rep rv e1
    subst this
    exact ⟨a, bs, rfl, s.sq, kb⟩
theorem xd_all (hc : X.calm = true) : CallR X (.builtin "all") (lowC X.kw (on1 allD)) := callR_1 fun x d h H Q QV rx hH hr hcl => by
  obtain ⟨a, bs, rfl, s, q⟩ := blsK_rep hH rx hr
  exact ⟨_, cr_all hc, a, bs, rfl, s, hcl.bl hH q⟩
theorem xd_any (hc : X.calm = true) : CallR X (.builtin "any") (lowC X.kw (on1 anyD)) := callR_1 fun x d h H Q QV rx hH hr hcl => by
  obtain ⟨a, bs, rfl, s, q⟩ := blsK_rep hH rx hr
  exact ⟨_, cr_any hc, a, bs, rfl, s, hcl.bl hH q⟩
def intsK (k : List Int → Prop) (h : MH) : D → Prop
  | .ref a => seqK (fun ds => ∃ bs, intsOf ds = some bs ∧ k bs) (seqO (h a))
  | .rol ds => ∃ bs, intsOf ds = some bs ∧ k bs
  | _ => False
theorem intsK_rep {k : List Int → Prop} {h : MH} {H : Hp} (hH : RepH X.kw h H) {d : D} {v : V} (r : RepV X.kw H d v) (q : intsK k h d) : ∃ a bs, v = .ref a ∧ SqL X.K H a (bs.map V.int) ∧ k bs := by
  cases d <;> try exact q.elim
  case ref a =>
    cases (show v = _ from r)
    have q : seqK (fun ds => ∃ bs, intsOf ds = some bs ∧ k bs) (seqO (h a)) := q
    cases e : h a with
    | none => rw [e] at q; exact q.elim
    | some o =>
      cases o with
      | lst ds =>
        rw [e] at q
        obtain ⟨bs, e1, kb⟩ := q
        obtain ⟨vs, eH, rv⟩ := hH a _ e
        have := intsOf_rep rv e1
        subst this
        exact ⟨a, bs, rfl, SqL.of eH, kb⟩
      | dic _ => rw [e] at q; exact q.elim
      | ins _ _ => rw [e] at q; exact q.elim
  case rol ds =>
    obtain ⟨a, vs, rfl, s, rv⟩ := r
    obtain ⟨bs, e1, kb⟩ := q
    have := intsOf_rep rv e1
    subst this
    exact ⟨a, bs, rfl, s.sq, kb⟩
def sumD (x : D) (h : MH) (Q : KD) : Prop := intsK (fun bs => Q (.int bs.sum) h) h x
theorem xd_sum (hc : X.calm = true) : CallR X (.builtin "sum") (lowC X.kw (on1 sumD)) := callR_1 fun x d h H Q QV rx hH hr hcl => by
  obtain ⟨a, bs, rfl, s, q⟩ := intsK_rep hH rx hr
  exact ⟨_, cr_sum hc, a, bs, rfl, s, hcl.int hH q⟩
def max2D : R1 := fun x y h Q => match x, y with
  | .int i, .int j => Q (.int (if j > i then j else i)) h
  | _, _ => False
def min2D : R1 := fun x y h Q => match x, y with
  | .int i, .int j => Q (.int (if j < i then j else i)) h
  | _, _ => False
theorem xd_max2 (hc : X.calm = true) : CallR X (.builtin "max") (lowC X.kw (on2 max2D)) := callR_2 fun x y d e h H Q QV rx ry hH hr hcl => by
  cases d <;> cases e <;> try exact hr.elim
  case int.int i j =>
    cases (show x = _ from rx)
    cases (show y = _ from ry)
    exact ⟨_, call_max2 hc, i, j, rfl, hcl.int hH hr⟩
theorem xd_min2 (hc : X.calm = true) : CallR X (.builtin "min") (lowC X.kw (on2 min2D)) := callR_2 fun x y d e h H Q QV rx ry hH hr hcl => by
  cases d <;> cases e <;> try exact hr.elim
  case int.int i j =>
    cases (show x = _ from rx)
    cases (show y = _ from ry)
    exact ⟨_, call_min2 hc, i, j, rfl, hcl.int hH hr⟩
/-! ### methods of lists and texts -/
abbrev M1 := D → List D → MH → KD → Prop
def lowM (K : KW) (r : M1) : V → List V → Hp → VK → Prop := fun x vs H QV => ∃ d ds h Q, RepV K H d x ∧ RepVs K H ds vs ∧ RepH K h H ∧ r d ds h Q ∧ Cl K h H Q QV
theorem mtR_of {id : String} {r' : V → List V → Hp → VK → Prop} (h : ∀ x xs H Q, r' x xs H Q → ∃ r, MtR X id r ∧ r x xs H Q) : MtR X id r' := fun pins s σ H x xs v us Q I rx rs hr =>
  let ⟨r, ho, hq⟩ := h x xs H Q hr
  ho pins s σ H x xs v us Q I rx rs hq
def isLst (o : Option MO) : Prop := match o with
  | some (.lst _) => True
  | _ => False
def okL (x : D) (h : MH) : Prop := match x with
  | .ref a => isLst (h a)
  | _ => False
theorem okL_rep {h : MH} {H : Hp} (hH : RepH X.kw h H) {d : D} {v : V} (r : RepV X.kw H d v) (q : okL d h) : tyV X.K "list" v H := by
  cases d <;> try exact q.elim
  case ref a =>
    cases (show v = _ from r)
    have q : isLst (h a) := q
    cases e : h a with
    | none => rw [e] at q; exact q.elim
    | some o =>
      cases o with
      | lst ds =>
        obtain ⟨vs, eH, _⟩ := hH a _ e
        exact .inl ⟨rfl, vs, SqL.of eH⟩
      | dic _ => rw [e] at q; exact q.elim
      | ins _ _ => rw [e] at q; exact q.elim
def dBM0 (ok : D → MH → Prop) (r : M1) (to : E1) : E1 := fun σ h Q => to σ h fun x h1 => ok x h1 ∧ r x [] h1 Q
def dBM (ok : D → MH → Prop) (r : M1) (to : E1) (t : A1) : E1 := fun σ h Q => to σ h fun x h1 => ok x h1 ∧ t σ h1 fun ds h2 => r x ds h2 Q
theorem de_lm0 {o : Expr} {to : E1} {r : M1} {name : Str} {id : String} {apos cpos : Pos} (slot : Slot "list" name id) (hty : typeOf (.builtin id) = pure (.type "method_descriptor")) (hm : MtR X id (lowM X.kw r)) (ho : DE X o to)
    (hbase : attributeBase o name X.env (eval o X.env) = eval o X.env := by rfl) (hline : (apos.endLine == cpos.line) = true := by rfl) : DE X (.Call (.Attribute o name apos) [] [] cpos) (dBM0 okL r to) :=
  weakE (pe_bm0 PySem.F.plainAttrs_list slot hty hm ho hbase hline) fun σV H QV ⟨σ, h, Q, hE, hH, ht, hc⟩ => ⟨σ, h, _, hE, hH, ht, fun x h1 v H1 s1 hH1 r1 q => ⟨okL_rep hH1 r1 q.1, x, [], h1, Q, r1, rfl, hH1, q.2, hc.step s1⟩⟩
theorem de_lm {o e : Expr} {es : List Expr} {to : E1} {t : A1} {r : M1} {name : Str} {id : String} {apos cpos : Pos} (slot : Slot "list" name id) (hty : typeOf (.builtin id) = pure (.type "method_descriptor")) (hm : MtR X id (lowM X.kw r)) (ho : DE X o to) (ha : DA X (e :: es) t)
    (hbase : attributeBase o name X.env (eval o X.env) = eval o X.env := by rfl)
    (hfew : ((backTo cpos (starEach (e :: es) X.env)).all (fun x => !x.1) && (backToKw cpos (keywordEach [] X.env)).all (fun x => x.1.isSome)
      && decide ((e :: es).length + ([] : List Keyword).length + (if ([] : List Keyword).isEmpty then 0 else 1) < 30)) = true := by rfl)
    (hline : (apos.endLine == cpos.line) = true := by rfl) (hs : starEach (e :: es) X.env = (false, eval e X.env) :: starEach es X.env := by rfl) (hplain : (backTo cpos (starEach es X.env)).any (·.1) = false := by rfl) :
    DE X (.Call (.Attribute o name apos) (e :: es) [] cpos) (dBM okL r to t) :=
  weakE (pe_bm PySem.F.plainAttrs_list slot hty hm ho ha hbase hfew hline hs hplain) fun σV H QV ⟨σ, h, Q, hE, hH, ht, hc⟩ => ⟨σ, h, _, hE, hH, ht, fun x h1 v H1 s1 hH1 r1 q => ⟨okL_rep hH1 r1 q.1, σ, h1, _, hE.mono (Stp.mo hH s1), hH1, q.2,
    fun ds h2 vs H2 s2 hH2 r2 q2 => ⟨x, ds, h2, Q, RepV.mono (Stp.mo hH1 s2) _ r1, r2, hH2, q2, hc.step (s1.trans s2)⟩⟩⟩
def lstK (k : List D → Prop) : Option MO → Prop
  | some (.lst xs) => k xs
  | _ => False
theorem lstK_inv {k : List D → Prop} {o : Option MO} (q : lstK k o) : ∃ xs, o = some (.lst xs) ∧ k xs := by
  cases o with
  | none => exact q.elim
  | some o =>
    cases o with
    | lst xs => exact ⟨xs, rfl, q⟩
    | dic _ => exact q.elim
    | ins _ _ => exact q.elim
def appendD : M1 := fun x ds h Q => match x, ds with
  | .ref a, [d] => lstK (fun xs => xs.length < sizeLine ∧ Q .none (up h a (.lst (xs ++ [d])))) (h a)
  | _, _ => False
theorem xm_append : MtR X "list.append" (lowM X.kw appendD) := mtR_of fun x vs H QV ⟨d, ds, h, Q, rx, rv, hH, hr, hc⟩ => by
  unfold appendD at hr
  split at hr
  · rename_i a e
    obtain ⟨xs, eh, hz, q⟩ := lstK_inv hr
    cases (show x = _ from rx)
    obtain ⟨v, rfl, r1⟩ := rep1 rv
    obtain ⟨us, eH, ru⟩ := hH a _ eh
    exact ⟨_, mt_append, a, us, v, rfl, rfl, eH, by rw [← ru.length]; exact hz, hc.write hH eh (.of (P2.append ru.pair (.cons r1 .nil))) (d := .none) rfl q⟩
  · exact hr.elim
def popD : M1 := fun x ds h Q => match x, ds with
  | .ref a, [] => lstK (fun xs => ∃ y, xs.getLast? = some y ∧ Q y (up h a (.lst xs.dropLast))) (h a)
  | .ref a, [.int i] => lstK (fun xs => ∃ k y, ixN xs.length i = some k ∧ xs[k]? = some y ∧ (-(2 ^ 63) ≤ i ∧ i < 2 ^ 63) ∧ Q y (up h a (.lst (xs.eraseIdx k)))) (h a)
  | _, _ => False
theorem xm_pop : MtR X "list.pop" (lowM X.kw popD) := mtR_of fun x vs H QV ⟨d, ds, h, Q, rx, rv, hH, hr, hc⟩ => by
  unfold popD at hr
  split at hr
  · rename_i a
    obtain ⟨xs, eh, y, ey, q⟩ := lstK_inv hr
    cases (show x = _ from rx)
    cases (show vs = [] from rv)
    obtain ⟨us, eH, ru⟩ := hH a _ eh
    rw [List.getLast?_eq_getElem?] at ey
    obtain ⟨w, ew, rw'⟩ := P2.get ru.pair ey
    rw [ru.length] at ew
    exact ⟨_, mt_pop, a, us, w, rfl, rfl, eH, ew, hc.write hH eh (.of (P2.dropLast ru.pair)) rw' q⟩
  · rename_i a i
    obtain ⟨xs, eh, k, y, ek, ey, hb, q⟩ := lstK_inv hr
    cases (show x = _ from rx)
    obtain ⟨v, rfl, r1⟩ := rep1 rv
    cases (show v = _ from r1)
    obtain ⟨us, eH, ru⟩ := hH a _ eh
    obtain ⟨w, ew, rw'⟩ := P2.get ru.pair ey
    exact ⟨_, mt_popAt, a, us, i, k, w, rfl, rfl, eH, hb.1, hb.2, by rw [← ru.length]; exact (ixN_seq ek).1, ew, hc.write hH eh (.of (P2.eraseIdx k ru.pair)) rw' q⟩
  · exact hr.elim
def extendD : M1 := fun x ds h Q => match x, ds with
  | .ref a, [.ref b] => lstK (fun xs => lstK (fun ys => xs.length + ys.length ≤ sizeLine ∧ Q .none (up h a (.lst (xs ++ ys)))) (h b)) (h a)
  | _, _ => False
theorem xm_extend : MtR X "list.extend" (lowM X.kw extendD) := mtR_of fun x vs H QV ⟨d, ds, h, Q, rx, rv, hH, hr, hc⟩ => by
  unfold extendD at hr
  split at hr
  · rename_i a b
    obtain ⟨xs, eh, hr⟩ := lstK_inv hr
    obtain ⟨ys, eh2, hz, q⟩ := lstK_inv hr
    cases (show x = _ from rx)
    obtain ⟨v, rfl, r1⟩ := rep1 rv
    cases (show v = _ from r1)
    obtain ⟨us, eH, ru⟩ := hH a _ eh
    obtain ⟨ws, eH2, ru2⟩ := hH b _ eh2
    exact ⟨_, mt_extend, a, b, us, ws, rfl, rfl, eH, eH2, by rw [← ru.length, ← ru2.length]; exact hz, hc.write hH eh (.of (P2.append ru.pair ru2.pair)) (d := .none) rfl q⟩
  · exact hr.elim
/-! texts -/
theorem len_joinL (S : List Nat) : ∀ ps : List (List Nat), (TL.joinL S ps).length ≤ (ps.map (·.length)).sum + ps.length * S.length
  | [] => by simp [TL.joinL]
  | [p] => by simp [TL.joinL]
  | p :: q :: r => by
    have ih := len_joinL S (q :: r)
    show (p ++ (S ++ TL.joinL S (q :: r))).length ≤ _
    rw [List.length_append, List.length_append, List.map_cons, List.sum_cons]
    have e : (p :: q :: r).length * S.length = (q :: r).length * S.length + S.length := by rw [List.length_cons, Nat.add_one_mul]
    omega
theorem mem_joinL {c : Nat} (S : List Nat) : ∀ ps : List (List Nat), c ∈ TL.joinL S ps → c ∈ S ∨ ∃ p ∈ ps, c ∈ p
  | [], h => by simp [TL.joinL] at h
  | [p], h => .inr ⟨p, by simp, h⟩
  | p :: q :: r, h => by
    have h' : c ∈ p ++ (S ++ TL.joinL S (q :: r)) := h
    rcases List.mem_append.mp h' with h | h
    · exact .inr ⟨p, by simp, h⟩
    · rcases List.mem_append.mp h with h | h
      · exact .inl h
      · rcases mem_joinL S (q :: r) h with h | ⟨p', a, b⟩
        · exact .inl h
        · exact .inr ⟨p', by simp at a ⊢; right; exact a, b⟩
theorem strOk_iff {x : Str} : PyData.strOk x = true ↔ ∀ c ∈ x.cps.toList, c < 0x110000 := by
  unfold PyData.strOk
  rw [← Array.all_toList, List.all_eq_true]
  simp
theorem join_tl (a : Str) (ys : List Str) : (Txt.join a ys).cps.toList = TL.joinL a.cps.toList (ys.map fun y => y.cps.toList) := by
  rw [TL.join_eq]; exact TL.tl_join a ys
theorem okS.join {a : Str} {ys : List Str} (oa : okS a) (oy : ∀ z ∈ ys, okS z) (h : (ys.map (·.length)).sum + ys.length * a.length ≤ sizeLine) : okS (Txt.join a ys) := by
  refine ⟨?_, ?_⟩
  · have := len_joinL a.cps.toList (ys.map fun y => y.cps.toList)
    rw [← join_tl, List.map_map, List.length_map] at this
    have e : ys.map ((fun x => x.length) ∘ fun y : Str => y.cps.toList) = ys.map (·.length) := List.map_congr_left fun z _ => by show z.cps.toList.length = z.cps.size; exact Array.length_toList
    rw [e] at this
    have l : (Txt.join a ys).length = (Txt.join a ys).cps.toList.length := (Array.length_toList).symm
    have l2 : a.cps.toList.length = a.length := Array.length_toList
    rw [l]; rw [l2] at this; omega
  · rw [strOk_iff, join_tl]
    intro c hc
    rcases mem_joinL _ _ hc with h | ⟨p, hp, h⟩
    · exact strOk_iff.mp oa.2 c h
    · obtain ⟨z, hz, rfl⟩ := List.mem_map.mp hp
      exact strOk_iff.mp (oy z hz).2 c h
def joinK (a : Str) (h : MH) (Q : KD) (ds : List D) : Prop := ∃ ys, strsOf ds = some ys ∧ (ys.map (·.length)).sum + ys.length * a.length ≤ sizeLine ∧ Q (.str (Txt.join a ys)) h
def joinD : R1 := fun x y h Q => match x with
  | .str a => seqK (joinK a h Q) (seqOf h y)
  | _ => False
def dJoin (to te : E1) : E1 := fun σ h Q => to σ h fun x h1 => (∃ z, x = .str z) ∧ te σ h1 fun y h2 => joinD x y h2 Q
theorem de_join {o e : Expr} {to te : E1} {apos pos : Pos} (ho : DE X o to) (he : DE X e te) (hs : starEach [e] X.env = [(false, eval e X.env)] := by rfl) (hbase : attributeBase o "join" X.env (eval o X.env) = eval o X.env := by rfl) (hline : (apos.endLine == pos.line) = true := by rfl) :
    DE X (.Call (.Attribute o "join" apos) [e] [] pos) (dJoin to te) :=
  weakE (pe_join ho he hs hbase hline) fun σV H QV ⟨σ, h, Q, hE, hH, ht, hc⟩ => by
    refine ⟨σ, h, _, hE, hH, ht, fun x h1 v H1 s1 hH1 r1 q => ?_⟩
    obtain ⟨⟨z, rfl⟩, q⟩ := q
    obtain ⟨rfl, oz⟩ := r1
    refine ⟨⟨z, rfl⟩, σ, h1, _, hE.mono (Stp.mo hH s1), hH1, q, fun y h2 u H2 s2 hH2 r2 q2 => ?_⟩
    have q2 : seqK (joinK z h2 Q) (seqOf h2 y) := q2
    cases e2 : seqOf h2 y with
    | none => rw [e2] at q2; exact q2.elim
    | some ds =>
      rw [e2] at q2
      obtain ⟨ys, e3, hz, q3⟩ := q2
      obtain ⟨a, vs, rfl, rv, hs⟩ := seq_rep hH2 r2 e2
      obtain ⟨rfl, oy⟩ := strsOf_rep rv e3
      exact ⟨z, a, ys, rfl, rfl, hs, hz, (hc.step (s1.trans s2)).str hH2 (oz.join oy hz) q3⟩
/-! ### calls of defs -/
abbrev P1 := List D → MH → KD → Prop
def lowP (K : KW) (sp : P1) : Sp := fun vs H QV _ => lowC K sp vs H QV
theorem de_call {k : Nat} {f : Addr} {fd : FuncData} {ps : List Str} {sp : P1} {x : Str} {e : Expr} {es : List Expr} {t : A1} {p pos : Pos} (F : FnG X.prog X.w X.K X.mg X.base k f fd ps (lowP X.kw sp)) (hr : RoomG k X.A) (hg : Gl X x) (hm : X.mg x = some (.ref f)) (hk : PySem.W.keepIn X.K (.ref f) = true) (hb : Binds X.K fd ps [])
    (ha : DA X (e :: es) t) (hdb : (x == ("__debug__" : Str)) = false := by decide) (he : starEach (e :: es) X.env = (false, eval e X.env) :: starEach es X.env := by rfl) (hpl : (backTo pos (starEach es X.env)).any (·.1) = false := by rfl) :
    DE X (.Call (.Name x p) (e :: es) [] pos) (dCall sp t) :=
  weakE (pe_callG F hr hg hm hk hb pass0 ha hdb he hpl) fun σV H QV ⟨σ, h, Q, hE, hH, ht, hc⟩ =>
    ⟨σ, h, _, hE, hH, ht, fun ds h1 vs H1 s1 hH1 r1 q => ⟨ds, h1, Q, r1, hH1, q, hc.step s1⟩⟩
theorem de_call0 {k : Nat} {f : Addr} {fd : FuncData} {ps : List Str} {sp : P1} {x : Str} {p pos : Pos} (F : FnG X.prog X.w X.K X.mg X.base k f fd ps (lowP X.kw sp)) (hr : RoomG k X.A) (hg : Gl X x) (hm : X.mg x = some (.ref f)) (hk : PySem.W.keepIn X.K (.ref f) = true) (hb : Binds X.K fd ps [])
    (hdb : (x == ("__debug__" : Str)) = false := by decide) : DE X (.Call (.Name x p) [] [] pos) (dCall sp dNil) :=
  weakE (pe_callG0 F hr hg hm hk hb pass0 hdb) fun σV H QV ⟨σ, h, Q, hE, hH, ht, hc⟩ => (show lowC X.kw sp [] H QV from ⟨[], h, Q, rfl, hH, ht, hc⟩)
end
def startD (n : Nat) (ds : List D) : Sl := ds.map some ++ List.replicate (n - ds.length) none
theorem nth_append_none : ∀ (a : Sl) (n : Nat) (i : Nat) {d : D}, nth (a ++ List.replicate n none) i = some d → nth a i = some d
  | [], 0, _, _, h => by cases h
  | [], n + 1, 0, _, h => by cases h
  | [], n + 1, i + 1, _, h => nth_append_none [] n i h
  | x :: r, n, 0, _, h => h
  | x :: r, n, i + 1, _, h => nth_append_none r n i h
theorem rep_start {K : KW} {H : Hp} {N : List Str} {ds : List D} {vs : List V} (r : RepVs K H ds vs) : RepE K H (startD N.length ds) (L2.start N vs) := by
  refine ⟨?_, fun i d e => ?_⟩
  · unfold startD L2.start
    rw [List.length_append, List.length_append, List.length_map, List.length_map, List.length_replicate, List.length_replicate, r.length]
  · have q := nth_append_none _ _ _ e
    have look : ∀ (ds : List D) (i : Nat) {d : D}, nth (ds.map some) i = some d → ds[i]? = some d := by
      intro ds
      induction ds with
      | nil => intro i d h; cases h
      | cons x r ih =>
        intro i d h
        cases i with
        | zero => exact h
        | succ n => rw [List.getElem?_cons_succ]; exact ih n h
    obtain ⟨v, ev, rv⟩ := P2.get r.pair (look ds i q)
    refine ⟨v, ?_, rv⟩
    unfold L2.start
    rw [List.getElem?_append_left (by rw [List.length_map]; exact (List.getElem?_eq_some_iff.mp ev).1), List.getElem?_map, ev]; rfl
/-- at less -/
def Lh (Q : KD) : KD := fun d h => ∃ h0, le h0 h ∧ Q d h0
def endN (Q : KD) : Nd := { nx := fun _ h => Lh Q .none h, rt := Lh Q }
theorem df_ok {P : Program} {w : World} {K : PySem.W.Frag} {mg : Str → Option Value} {base : Heap} {x qual : Str} {st : Stmt} {f : Addr} {fd : FuncData} {N ps : List Str} {k : Nat} {sp : P1} (F : Fun K x qual st f fd) (S : FnScope N ps (defScope st)) (len : ∀ ds h Q, sp ds h Q → ds.length = ps.length)
    (hbody : ∀ (cdv : Value) (A : Around) (outer : List Env) (s : Shared) (H : Hp) (E : XK), RoomG k (A.deeper (envOfC qual (defScope st) s.heap.objs.size f cdv)) →
      ∃ t, DSs (cxOf CX0 P w K mg base N qual (defScope st) f cdv A outer s H E).nox (defBody st) t ∧ ∀ ds h Q, sp ds h Q → t (endN Q) (startD N.length ds) h) : FnG P w K mg base (k + 1) f fd ps (lowP ⟨K, w, mg⟩ sp) := by
  refine fng_of F S (fun vs H QV E ⟨ds, h, Q, rv, hH, hs, hc⟩ => by rw [← rv.length]; exact len _ _ _ hs) fun cdv A outer s H vs QV E hr hq => ?_
  obtain ⟨t, ht, hb⟩ := hbody cdv A outer s H E hr
  obtain ⟨ds, h, Q, rv, hH, hs, hc⟩ := hq
  refine ⟨_, ht.nox, endN Q, startD N.length ds, h, rep_start rv, hH, hb ds h Q hs, ?_, ?_, ?_, ?_⟩
  · rintro σ' h' σV' H' s' e' r' ⟨h0, w0, q⟩
    exact hc .none h0 .non H' (s'.low w0) (r'.low w0) rfl q
  · rintro d h' v H' s' r' rv' ⟨h0, w0, q⟩
    exact hc d h0 v H' (s'.low w0) (r'.low w0) rv' q
  · intro _ _ _ _ _ _ _ z; exact z.elim
  · intro _ _ _ _ _ _ _ z; exact z.elim
end DL
namespace DL
open PySem PySem.Spec PyProof.Rows L2
section
variable {P : Program} {w : World} {K : PySem.W.Frag} {mg : Str → Option Value} {base : Heap}
/-- a def of the top, as it stands -/
structure TopF (K : PySem.W.Frag) (mg : Str → Option Value) (x qual : Str) (st : Stmt) (ps : List Str) : Prop where
  ex : ∃ f fd, Fun K x qual st f fd ∧ mg x = some (.ref f) ∧ L2.Binds K fd ps []
/-- a def that keeps its promise, ready for calls -/
structure Good (P : Program) (w : World) (K : PySem.W.Frag) (mg : Str → Option Value) (base : Heap) (k : Nat) (x : Str) (ps : List Str) (sp : P1) : Prop where
  ex : ∃ f fd, FnG P w K mg base k f fd ps (lowP ⟨K, w, mg⟩ sp) ∧ mg x = some (.ref f) ∧ PySem.W.keepIn K (.ref f) = true ∧ L2.Binds K fd ps []
theorem good_ok {x qual : Str} {st : Stmt} {N ps : List Str} {k : Nat} {sp : P1} {t : S1} (T : TopF K mg x qual st ps) (S : FnScope N ps (defScope st)) (len : ∀ ds h Q, sp ds h Q → ds.length = ps.length)
    (body : ∀ (f : Addr) (cdv : Value) (A : Around) (outer : List Env) (s : Shared) (H : Hp) (E : XK), RoomG k (A.deeper (envOfC qual (defScope st) s.heap.objs.size f cdv)) →
      DSs (cxOf CX0 P w K mg base N qual (defScope st) f cdv A outer s H E).nox (defBody st) t) (sat : ∀ ds h Q, sp ds h Q → t (endN Q) (startD N.length ds) h) : Good P w K mg base (k + 1) x ps sp := by
  obtain ⟨f, fd, F, m, b⟩ := T.ex
  exact ⟨f, fd, df_ok F S len fun cdv A outer s H E hr => ⟨t, body f cdv A outer s H E hr, sat⟩, m, F.kp, b⟩
theorem Good.mono {x : Str} {ps : List Str} {sp : P1} {j k : Nat} (G : Good P w K mg base j x ps sp) (h : j ≤ k) : Good P w K mg base k x ps sp := by
  obtain ⟨f, fd, F, m, kp, b⟩ := G.ex
  exact ⟨f, fd, F.mono h, m, kp, b⟩
/-- no promise -/
theorem Good.no {x qual : Str} {st : Stmt} {ps : List Str} {k : Nat} (T : TopF K mg x qual st ps) : Good P w K mg base k x ps fun _ _ _ => False := by
  obtain ⟨f, fd, F, m, b⟩ := T.ex
  exact ⟨f, fd, ⟨fun _ _ _ _ ⟨_, _, _, _, _, z, _⟩ => z.elim, fun _ _ _ _ _ _ _ _ _ _ _ _ _ ⟨_, _, _, _, _, z, _⟩ => z.elim⟩, m, F.kp, b⟩
theorem Good.imp {x : Str} {ps : List Str} {sp sp' : P1} {k : Nat} (G : Good P w K mg base k x ps sp) (h : ∀ ds h Q, sp' ds h Q → sp ds h Q) : Good P w K mg base k x ps sp' := by
  obtain ⟨f, fd, F, m, kp, b⟩ := G.ex
  exact ⟨f, fd, F.imp fun _ _ _ _ ⟨ds, h', Q, r1, r2, z, c⟩ => ⟨ds, h', Q, r1, r2, h _ _ _ z, c⟩, m, kp, b⟩
end
section
variable {X : Cx}
theorem de_callG {k j : Nat} {ps : List Str} {sp : P1} {x : Str} {e : Expr} {es : List Expr} {t : A1} {p pos : Pos} (G : Good X.prog X.w X.K X.mg X.base j x ps sp) (hr : RoomG k X.A) (hj : j ≤ k) (hg : Gl X x)
    (ha : DA X (e :: es) t) (hdb : (x == ("__debug__" : Str)) = false := by decide) (he : starEach (e :: es) X.env = (false, eval e X.env) :: starEach es X.env := by rfl) (hpl : (backTo pos (starEach es X.env)).any (·.1) = false := by rfl) :
    DE X (.Call (.Name x p) (e :: es) [] pos) (dCall sp t) := by
  obtain ⟨f, fd, F, m, kp, b⟩ := G.ex
  exact de_call F (hr.mono hj) hg m kp b ha hdb he hpl
theorem de_callG0 {k j : Nat} {ps : List Str} {sp : P1} {x : Str} {p pos : Pos} (G : Good X.prog X.w X.K X.mg X.base j x ps sp) (hr : RoomG k X.A) (hj : j ≤ k) (hg : Gl X x) (hdb : (x == ("__debug__" : Str)) = false := by decide) :
    DE X (.Call (.Name x p) [] [] pos) (dCall sp dNil) := by
  obtain ⟨f, fd, F, m, kp, b⟩ := G.ex
  exact de_call0 F (hr.mono hj) hg m kp b hdb
end
/-- from what the top has written -/
theorem top_mk {K : PySem.W.Frag} {h : Heap} {mg : Str → Option Value} (X : K.In h) (G : h.Ns mainGlobals mg) {x qual : Str} {st : Stmt} {ps : List Str} {f : Addr} {oc : Value} {od an : Option Addr} {osl : Array (Option Value)} {kV doc pm cdv ct : Value}
    (a : PySem.W.nsIn K mainGlobals x = some (some (.ref f))) (l : K.lookup f = some ⟨oc, od, .func (PySem.W.fnOf x qual (defArgs st) (defBody st) (defScope st) .none kV doc pm an cdv ct), osl⟩)
    (c : PySem.W.codeIn K cdv qual = true) (k : PySem.W.keepIn K (.ref f) = true)
    (b : ∀ (kV doc pm : Value) (an : Option Addr) (cdv ct : Value) (us : List Value), us.length = ps.length → bindArgs (PySem.W.fnOf x qual (defArgs st) (defBody st) (defScope st) .none kV doc pm an cdv ct) ⟨us, []⟩ = pure (ps.zip us)) : TopF K mg x qual st ps :=
  have F := fun_mk (st := st) l c k
  ⟨f, _, F, PySem.W.mg_of X G a, F.binds b⟩
/-- the law's own end -/
def spLaw : P1 := fun ds h Q => ∃ ns : List Int, ds = [.rol (ns.map D.int)] ∧ ns.length ≤ 63 ∧ ∀ h', Q (.bool true) h'
theorem rol_of {K : KW} {H : Hp} (o : Only H) {a : Addr} {xs : List V} (s : SqL K.F H a xs) : ROL K H a xs := by
  rcases s with (s | ⟨ob, s⟩) | s
  · rcases o a with n | ⟨_, _, n⟩ <;> (rw [n] at s; cases s)
  · exact .inl ⟨ob, s⟩
  · exact .inr s
theorem reps_ints {K : KW} {H : Hp} : ∀ ns : List Int, RepVs K H (ns.map D.int) (ns.map V.int)
  | [] => rfl
  | n :: r => ⟨_, _, rfl, rfl, reps_ints r⟩
/-- the law's promise, whatever the world -/
def lowS0 (K : PySem.W.Frag) : Sp := fun vs H Q E => ∀ (w : World) (mg : Str → Option Value), lowP ⟨K, w, mg⟩ spLaw vs H Q E
theorem law_start0 {K : KW} {H : Hp} {a : Addr} {ns : List Int} (hl : ns.length ≤ 63) (o : Only H) (s : SqL K.F H a (ns.map V.int)) : lowP K spLaw [.ref a] H (fun v _ => v = .bl true) fun _ _ _ => False := by
  refine ⟨[.rol (ns.map D.int)], fun _ => none, fun d _ => d = .bool true, ⟨_, _, rfl, ⟨a, _, rfl, rol_of o s, reps_ints ns⟩, rfl⟩, (fun a o e => nomatch e), ⟨ns, rfl, hl, fun _ => rfl⟩, fun d h' v H' _ _ r q => ?_⟩
  subst q
  exact r
theorem law_start {K : PySem.W.Frag} {H : Hp} {a : Addr} {ns : List Int} (hl : ns.length ≤ 63) (o : Only H) (s : SqL K H a (ns.map V.int)) : lowS0 K [.ref a] H (fun v _ => v = .bl true) fun _ _ _ => False := fun w mg => law_start0 (K := ⟨K, w, mg⟩) hl o s
theorem good_end {P : Program} {w : World} {K : PySem.W.Frag} {mg : Str → Option Value} {base : Heap} {k : Nat} {x : Str} {ps : List Str} {sp : P1} {st : Stmt} {qual : Str} {f : Addr} {oc : Value} {od an : Option Addr} {osl : Array (Option Value)} {kV doc pm cdv ct : Value} (G : Good P w K mg base k x ps sp) (m : mg x = some (.ref f)) :
    ∃ fd, FnG P w K mg base k f fd ps (lowP ⟨K, w, mg⟩ sp) ∧ L2.Binds K fd ps [] := by
  obtain ⟨g, fd, F, m', kp, b⟩ := G.ex
  rw [m] at m'
  cases m'
  exact ⟨fd, F, b⟩
end DL
namespace DL
open PySem PySem.Spec PyProof.Rows L2
/-! ### dict displays -/
section
variable {K : KW} {h : MH} {H : Hp} {l : Addr}
/-- what stood hidden is shown -/
theorem rep_layO (r : RepH K h H) (n : h l = none) {o0 o : HO} (e0 : H l = some o0) (hd : DL.hid o0 = false) {u : MO} (x : RepO K (upd H l o) l u) : RepH K (up h l u) (upd H l o) := fun a w e => by
  have m : Mo K H (upd H l o) := Mo.upd e0 hd
  by_cases q : a = l
  · subst q
    rw [up_same] at e; cases e
    exact x
  · rw [up_ne q] at e
    exact (r a w e).mono m fun x f => by rw [upd_ne q]; exact f
end
theorem dic_K {K : KW} {H : Hp} {a : Addr} {kvs : Kvs} {kv : List (L2.Key × V)} (e : H a = some (.dK kv)) (r : RepKs K H kvs kv) : RepO K H a (.dic kvs) := Or.inl ⟨kv, e, r⟩
def dDic0 : E1 := fun _ h Q => ∀ p, h p = none → Q (.ref p) (up h p (.dic []))
def dPairs : List (E1 × E1) → Sl → MH → (Kvs → MH → Prop) → Prop
  | [], _, h, Q => Q [] h
  | (tk, tv) :: r, σ, h, Q => tk σ h fun x h1 => tv σ h1 fun y h2 => dPairs r σ h2 fun ps h3 => Q ((x, y) :: ps) h3
def dmerge (acc more : Kvs) : Kvs := more.foldl (fun a p => dset a p.1 p.2) acc
def dDisp (trs : List (E1 × E1)) : E1 := fun σ h Q => dPairs trs σ h fun ps h1 => ps.all (fun p => (scaK p.1).isSome) = true ∧ ps.length ≤ 15 ∧ ∀ p, h1 p = none → Q (.ref p) (up h1 p (.dic (dmerge [] ps)))
section
variable {X : Cx}
theorem de_dic0 {pos : Pos} : DE X (.Dict [] [] pos) dDic0 := weakE pe_dnewK fun σV H QV ⟨σ, h, Q, hE, hH, ht, hc⟩ p np =>
  hc (.ref p) _ _ _ (Stp.new np) (hH.newO np (dic_K upd_same .nil)) rfl (ht p (hH.nofresh np))
theorem merge_rep {K : KW} {H : Hp} : ∀ {more acc : Kvs} {kv : List (L2.Key × V)} {mv : List (L2.Key × V)}, RepKs K H acc kv → RepKs K H more mv → RepKs K H (dmerge acc more) (mergeK kv mv)
  | _, _, _, _, a, .nil => a
  | _, acc, kv, _, a, .cons (a := p) (b := x) (l₁ := ps) (l₂ := xs) q t => by
    show RepKs K H (dmerge (dset acc p.1 p.2) ps) (mergeK (putK kv x.1 x.2) xs)
    exact merge_rep (dset_K a q.1 q.2.1 q.2.2) t
theorem pairs_low {trs : List (E1 × E1)} : ∀ {σ : Sl} {σV : L2.St} {h : MH} {H : Hp} {Q : Kvs → MH → Prop} {QV : List (V × V) → Hp → Prop}, RepE X.kw H σ σV → RepH X.kw h H → dPairs trs σ h Q →
    (∀ ps h' vs H', Stp h H h' H' → RepH X.kw h' H' → Paired (fun (p : D × D) (q : V × V) => RepV X.kw H' p.1 q.1 ∧ RepV X.kw H' p.2 q.2) ps vs → Q ps h' → QV vs H') → tPairs (trs.map fun t => (lowE X.kw t.1, lowE X.kw t.2)) σV H QV := by
  induction trs with
  | nil => exact fun hE hH ht hc => hc [] _ [] _ Stp.refl hH .nil ht
  | cons t r ih =>
    intro σ σV h H Q QV hE hH ht hc
    refine ⟨σ, h, _, hE, hH, ht, fun x h1 v H1 s1 hH1 r1 q1 => ⟨σ, h1, _, hE.mono (Stp.mo hH s1), hH1, q1, fun y h2 u H2 s2 hH2 r2 q2 => ?_⟩⟩
    refine ih ((hE.mono (Stp.mo hH s1)).mono (Stp.mo hH1 s2)) hH2 q2 fun ps h3 vs H3 s3 hH3 rp q3 => ?_
    exact hc _ h3 _ H3 (s1.trans (s2.trans s3)) hH3 (.cons ⟨RepV.mono ((Stp.mo hH1 s2).trans (Stp.mo hH2 s3)) _ r1, RepV.mono (Stp.mo hH2 s3) _ r2⟩ rp) q3
theorem keys_low {K : KW} {H : Hp} : ∀ {ps : Kvs} {vs : List (V × V)}, Paired (fun (p : D × D) (q : V × V) => RepV K H p.1 q.1 ∧ RepV K H p.2 q.2) ps vs → ps.all (fun p => (scaK p.1).isSome) = true → ∃ kv : List (L2.Key × V), vs = kv.map (fun x => (kV x.1, x.2)) ∧ RepKs K H ps kv
  | _, _, .nil, _ => ⟨[], rfl, .nil⟩
  | _, _, @Paired.cons _ _ _ p q _ _ r t, a => by
    rw [List.all_cons, Bool.and_eq_true] at a
    obtain ⟨kv, e, rk⟩ := keys_low t a.2
    obtain ⟨k, ek⟩ := Option.isSome_iff_exists.mp a.1
    have ev := sca_rep r.1 ek
    refine ⟨(k, q.2) :: kv, ?_, .cons ⟨ek, by rw [← ev]; exact r.1, r.2⟩ rk⟩
    rw [e, List.map_cons, ← ev]
theorem de_disp {pos : Pos} {keys : List (Option Expr)} {values : List Expr} {trs : List (E1 × E1)} (p : PPs X pos keys values (trs.map fun t => (lowE X.kw t.1, lowE X.kw t.2))) (hall : keys.all (·.isSome) = true) (hl : keys.length = values.length) (h0 : keys ≠ []) (h15 : keys.length ≤ 15) :
    DE X (.Dict keys values pos) (dDisp trs) := weakE (pe_disp p hall hl h0 h15) fun σV H QV ⟨σ, h, Q, hE, hH, ht, hc⟩ a na => by
  have m : Mo X.kw H (upd H a (.dK [])) := Stp.mo hH (Stp.hide na)
  refine pairs_low (hE.mono m) (hH.hide na) ht fun ps h1 vs H1 s1 hH1 rp ⟨al, l15, q⟩ => ?_
  obtain ⟨n1, e1⟩ := s1 a (.dK []) (hH.nofresh na) upd_same
  obtain ⟨kv, ev, rk⟩ := keys_low rp al
  refine ⟨e1, kv, ev, by rw [← rk.length]; exact l15, ?_⟩
  have m1 : Mo X.kw H1 (upd H1 a (.dK (mergeK [] kv))) := Mo.upd e1 rfl
  have hide : Stp h H h (upd H a (.dK [])) := Stp.hide na
  refine hc (.ref a) _ _ _ ?_ (rep_layO hH1 n1 e1 rfl (dic_K upd_same ((merge_rep .nil rk).mono m1))) rfl (q a n1)
  intro b o eb fb
  have nb : b ≠ a := fun z => by rw [z, na] at fb; cases fb
  obtain ⟨x1, x2⟩ := (hide.trans s1) b o eb fb
  exact ⟨by rw [up_ne nb]; exact x1, by rw [upd_ne nb]; exact x2⟩
/-! ### a < b < c -/
theorem low_chain {r r' : R1} {ta tb tc : E1} {σV : L2.St} {H : Hp} {QV : VK} (h : lowE X.kw (dChain r r' ta tb tc) σV H QV) : tChain (lowR X.kw r) (lowR X.kw r') (lowE X.kw ta) (lowE X.kw tb) (lowE X.kw tc) σV H QV := by
  obtain ⟨σ, h, Q, hE, hH, ht, hc⟩ := h
  refine ⟨σ, h, _, hE, hH, ht, fun x h1 v1 H1 s1 hH1 r1 q1 => ⟨σ, h1, _, hE.mono (Stp.mo hH s1), hH1, q1, fun y h2 v2 H2 s2 hH2 r2 q2 => ?_⟩⟩
  have m1 := Stp.mo hH s1
  have m2 := Stp.mo hH1 s2
  refine ⟨x, y, h2, _, RepV.mono m2 _ r1, r2, hH2, q2, fun d h3 v3 H3 s3 hH3 r3 q3 => ?_⟩
  have m3 := Stp.mo hH2 s3
  cases d with
  | bool k =>
    refine ⟨k, r3, ?_⟩
    have q3 : if k = true then tc σ h3 fun z h4 => r' y z h4 Q else Q (.bool false) h3 := q3
    cases k with
    | false =>
      rw [if_neg Bool.false_ne_true] at q3 ⊢
      exact hc (.bool false) h3 _ H3 (s1.trans (s2.trans s3)) hH3 rfl q3
    | true =>
      rw [if_pos rfl] at q3 ⊢
      refine ⟨σ, h3, _, ((hE.mono m1).mono m2).mono m3, hH3, q3, fun z h4 v4 H4 s4 hH4 r4 q4 => ?_⟩
      exact ⟨y, z, h4, Q, RepV.mono (m3.trans (Stp.mo hH3 s4)) _ r2, r4, hH4, q4, hc.step (s1.trans (s2.trans (s3.trans s4)))⟩
  | _ => exact q3.elim
theorem de_chain {op op' : CmpOp} {r r' : R1} {a b c : Expr} {ta tb tc : E1} {pos : Pos} (ho : OpR X (compareOp op) (lowR X.kw r)) (ho' : OpR X (compareOp op') (lowR X.kw r')) (ha : DE X a ta) (hb : DE X b tb) (hcc : DE X c tc)
    (hm : lastMarks [op, op'] [b, c] = false := by with_unfolding_all rfl) : DE X (.Compare a [op, op'] [b, c] pos) (dChain r r' ta tb tc) := weakE (pe_chain ho ho' ha hb hcc hm) fun _ _ _ h => low_chain h
theorem dt_chain {op op' : CmpOp} {r r' : R1} {a b c : Expr} {ta tb tc : E1} {pos : Pos} (ho : OpR X (compareOp op) (lowR X.kw r)) (ho' : OpR X (compareOp op') (lowR X.kw r')) (ha : DE X a ta) (hb : DE X b tb) (hcc : DE X c tc)
    (hm : lastMarks [op, op'] [b, c] = false := by with_unfolding_all rfl) : DT X (.Compare a [op, op'] [b, c] pos) (dTest (dChain r r' ta tb tc)) :=
  weakT (pt_chain ho ho' ha hb hcc hm) fun σV H QV ⟨σ, h, Q, hE, hH, ht, hc⟩ => low_chain ⟨σ, h, asB Q, hE, hH, ht, asB_cl hc⟩
/-! ### i.bit_length() -/
def bitsD (x : D) (h : MH) (Q : KD) : Prop := match x with
  | .int i => Q (.int (Builtin.Int.intBits i : Nat)) h
  | _ => False
theorem de_bits {o : Expr} {to : E1} {apos pos : Pos} (ho : DE X o to) (hbase : attributeBase o "bit_length" X.env (eval o X.env) = eval o X.env := by rfl) (hline : (apos.endLine == pos.line) = true := by rfl) : DE X (.Call (.Attribute o "bit_length" apos) [] [] pos) (dUn bitsD to) :=
  weakE (pe_bits ho hbase hline) fun σV H QV ⟨σ, h, Q, hE, hH, ht, hc⟩ => ⟨σ, h, _, hE, hH, ht, fun d h' v H' s' r' rv q => by
    cases d with
    | int i => exact ⟨i, rv, (hc.step s').int r' q⟩
    | _ => exact q.elim⟩
/-! ### range with a step -/
def rgC (lo c : Int) (n : Nat) : List D := (List.range n).map fun i => .int (lo + (i : Nat) * c)
theorem src_rngC {K : KW} {H1 : Hp} {h1 : MH} {lo c : Int} {n : Nat} : SrcOk K (Itc lo c n) (rgC lo c n) (fun _ => True) h1 H1 := by
  have len : (rgC lo c n).length = n := by unfold rgC; rw [List.length_map, List.length_range]
  refine ⟨fun h H i _ _ _ hi => ?_, fun h H i v H' _ rh _ hi y => ?_, fun h H _ _ _ => ?_⟩
  · show i < n
    rw [← len]; exact hi
  · obtain ⟨rfl, rfl⟩ := y
    rw [len] at hi
    refine ⟨.int (lo + (i : Nat) * c), ?_, rfl, Stp.refl, rh⟩
    unfold rgC
    rw [List.getElem?_map, List.getElem?_range hi]; rfl
  · show n ≤ (rgC lo c n).length
    rw [len]; exact Nat.le_refl _
def rg3 (ds : List D) (h : MH) (Q : List D → (MH → Prop) → MH → Prop) : Prop := match ds with
  | [.int i, .int j, .int c] => ∃ n, RgC i j c n ∧ Q (rgC i c n) (fun _ => True) h
  | _ => False
def iRg3 (ta : A1) : I1 := fun σ h Q => ta σ h fun ds h1 => rg3 ds h1 Q
theorem rg3_inv {ds : List D} {h : MH} {Q : List D → (MH → Prop) → MH → Prop} (q : rg3 ds h Q) : ∃ i j c n, ds = [.int i, .int j, .int c] ∧ RgC i j c n ∧ Q (rgC i c n) (fun _ => True) h := by
  unfold rg3 at q
  split at q
  · obtain ⟨n, a, b⟩ := q; exact ⟨_, _, _, n, rfl, a, b⟩
  · exact q.elim
theorem di_range3 {tg a b c : Expr} {ta : A1} {p pos : Pos} (hg : Gl X "range") (hm : X.mg "range" = none) (ha : DA X [a, b, c] ta) (hs : starEach [a, b, c] X.env = (false, eval a X.env) :: starEach [b, c] X.env := by rfl) (hpl : (backTo pos (starEach [b, c] X.env)).any (·.1) = false := by rfl) :
    DI X tg (.Call (.Name "range" p) [a, b, c] [] pos) (iRg3 ta) :=
  weakI (pi_range3 hg hm ha hs hpl) fun σV H R ⟨σ, h, Q, hE, hH, ht, hc⟩ => ⟨σ, h, _, hE, hH, ht, fun ds h' vs H' s' r' rv q => by
    obtain ⟨i, j, c, n, rfl, b, q⟩ := rg3_inv q
    obtain ⟨v, r, rfl, r1, v2, r2, rfl, r3, v3, r4, rfl, r5, r6⟩ := rv
    cases (show v = _ from r1)
    cases (show v2 = _ from r3)
    cases (show v3 = _ from r5)
    cases (show r4 = [] from r6)
    exact ⟨i, j, c, n, rfl, b, hc _ _ _ _ _ s' r' src_rngC q⟩⟩
end
end DL
namespace DL
open PySem PySem.Spec PyProof.Rows L2
/-! ### enumerate(tuple) -/
open Sem (wp) in
open AutoSeq1 (wpAny_loadPart') in
theorem meets_enum_tup (l : Addr) (items : Array Value) (n : Nat) (dct : Option Addr) (sl : Array (Option Value)) :
    Meets (Builtin.«enumerate.__new__» ⟨[.type "enumerate", .ref l], []⟩) (fun _ R s => s.heap.get? l = some ⟨.type "tuple", dct, .seq items n, sl⟩ ∧
      R (.ok (.ret (.ref (s.heap.push { cls := .type "tuple_iterator", data := .fields #[.ref l, .int 0 0] }).objs.size)))
        { s with heap := (s.heap.push { cls := .type "tuple_iterator", data := .fields #[.ref l, .int 0 0] }).push { cls := .type "enumerate", data := .fields #[.none, .bool false, .ref s.heap.objs.size, rawInt 0, .none, .none] } }) :=
  .of_wp fun prog w A R s z => by
    obtain ⟨hp, g, d, tk, os⟩ := s; obtain ⟨hl, h⟩ := z
    have sub := sub_enumerate
    have T : Heap.IsTuple (Shared.heap ⟨hp, g, d, tk, os⟩) l items := ⟨_, hl, rfl, n, rfl⟩
    wp_walk using wpAny_loadPart' hl
    refine wpAny_stack_any fun st => wpAny_pure ?_; split
    · rename_i c _ _ _ _ _
      cases (c == Value.type "enumerate") <;> (wp_walk using wpAny_loadPart' hl, wpAny_pyIter_tuple T; exact ⟨_, rfl, h⟩)
    · (wp_walk using wpAny_loadPart' hl, wpAny_pyIter_tuple T); exact ⟨_, rfl, h⟩
theorem call_enum_tup {prog : Program} {w : World} {A : Around} {E : Value → Shared → Prop} {s : Shared} {l : Addr} {items : Array Value} {Q : Value → Shared → Prop} (T : s.heap.IsTuple l items)
    (h : ∀ h', IsEnum h' (s.heap.objs.size + 1) s.heap.objs.size 0 .none → h'.IsTupleIter s.heap.objs.size l 0 → (∀ b o, s.heap.get? b = some o → h'.get? b = some o) → Q (.ref (s.heap.objs.size + 1)) { s with heap := h' }) :
    wpAny (model prog w) A (call (.type "enumerate") [.ref l]) Q E s := by
  obtain ⟨⟨c, dct, dt, sl⟩, hl, hc, n, hd⟩ := T
  cases (show c = .type "tuple" from hc)
  cases (show dt = .seq items n from hd)
  refine callType_new F.called_enumerate (by decide) (F.typeCall_enumerate_1 _) (F.newCall_enumerate_1 _) (fun obj => F.args_object_init_2 obj _) F.entry_enumerate_new (meets_enum_tup l items n dct sl) ⟨hl, ?_⟩
  have hz : (s.heap.push { cls := .type "tuple_iterator", data := .fields #[.ref l, .int 0 0] }).objs.size = s.heap.objs.size + 1 := Heap.size_push ..
  show _ ∧ _
  rw [hz]
  have he := Heap.get?_push_size (s.heap.push { cls := .type "tuple_iterator", data := .fields #[.ref l, .int 0 0] }) (o := { cls := .type "enumerate", data := .fields #[.none, .bool false, .ref s.heap.objs.size, rawInt 0, .none, .none] }) rfl
  rw [hz] at he
  exact ⟨⟨_, he, rfl⟩, h _ he ⟨_, Heap.get?_push_of_some _ (Heap.get?_push_size _ rfl), rfl, rfl⟩ fun b o x => Heap.get?_push_of_some _ (Heap.get?_push_of_some _ x)⟩
/-- the tuple at a, each item in a new pair with its place -/
def IteT (K : PySem.W.Frag) (a : Addr) : It :=
  ⟨fun i H => ∃ (xs : List V) (x : V), SqT K H a xs ∧ xs[i]? = some x, fun i H v H' => ∃ T x, v = .ref T ∧ H T = none ∧ H' = upd H T (.tup [.int (i : Nat), x]) ∧ ∀ xs, SqT K H a xs → xs[i]? = some x, fun i H => ∃ xs : List V, SqT K H a xs ∧ xs.length = i⟩
theorem tup_apart {h : Heap} {a e it : Addr} {items : Array Value} {j : Int} {old : Value} {i : Nat} (T : h.IsTuple a items) (he : IsEnum h e it j old) (hi : h.IsTupleIter it a i) : a ≠ e ∧ a ≠ it := by
  obtain ⟨o, e1, c1, _⟩ := T
  obtain ⟨o2, e2, c2, _⟩ := hi
  refine ⟨fun z => ?_, fun z => ?_⟩
  · subst z; rw [he] at e1; cases e1; exact absurd (Value.type.inj c1) (by decide)
  · subst z; rw [e1] at e2; cases e2; rw [c1] at c2; exact absurd (Value.type.inj c2) (by decide)
theorem turn_enumT {P : Program} {w : World} {K : PySem.W.Frag} {elts : List Expr} {kk : Nat} {tpos : Pos} (a e it : Addr) :
    Turn P w K (.Tuple elts kk tpos) (IteT K a) [e, it] e (fun i h => (∃ old, IsEnum h e it ((i : Nat) : Int) old) ∧ h.IsTupleIter it a i ∧ e ≠ it) where
  mem := by simp
  obj := fun i h ⟨⟨old, he⟩, ⟨o, ho, hc, hd⟩, _⟩ b hb => by
    rcases (show b = e ∨ b = it by simpa using hb) with z | z
    · rw [z]; exact ⟨_, he, fun v q => nomatch q⟩
    · rw [z]; exact ⟨o, ho, fun v q => by rw [hd] at q; cases q⟩
  keep := fun i h h' ⟨⟨old, he⟩, hi, hne⟩ k => ⟨⟨old, k e (by simp) _ he⟩, hi.at fun o q => k it (by simp) o q, hne⟩
  item := by
    intro X hP hw hK hc i pins s σ H E I hf ⟨⟨old, he⟩, hit, hne⟩ ⟨xs, x, hq, hx⟩
    subst hP hw hK
    obtain ⟨its, rv, p, hz⟩ := I.tuple hq
    have T : s.heap.IsTuple a its.toArray := p
    obtain ⟨u, hu, ru⟩ := rv.get hx
    obtain ⟨ae, ai⟩ := tup_apart T he hit
    have lts : e < s.heap.objs.size ∧ it < s.heap.objs.size := ⟨Heap.lt_size he, let ⟨_, q, _⟩ := hit; Heap.lt_size q⟩
    have hlt : i < its.toArray.size := by
      have := (List.getElem?_eq_some_iff.mp hu).1
      simpa using this
    refine wpAny_pyNext_enum_itemD (Draws.tuple (A := X.A.in1) (show X.A.in1.handled = none from I.ok.hd hc) it a ai its.toArray) he ⟨hit, T⟩ hlt hne (by simp [hne, Ne.symm ae]) fun x' h' tk px ho st' hT hsz hk => ?_
    have ex : x' = u := by
      have px : its.toArray[i]? = some x' := px
      rw [List.getElem?_toArray, hu] at px
      exact (Option.some.inj px).symm
    subst ex
    refine ⟨_, rfl, wpAny_letOwnedTupleGo_enum (s := { s with heap := h', toks := tk + 1 }) ho fun h'' he' sb => ?_⟩
    have hT2 : h''.get? s.heap.objs.size = some { cls := .type "tuple", data := .seq #[.int i tk, x'] } := (sb.2 _ (Nat.ne_of_gt lts.1)).trans hT
    have I1 : Inv X pins σ (upd H s.heap.objs.size (.tup [.int (i : Nat), x])) { s with heap := h'', toks := tk + 1 } :=
      I.turnedNew (ch := [e, it]) (fun b ob hb q => (sb.2 b (fun z => hb (by simp [z]))).trans (hk b ob (fun z => hb (by simp [z])) (fun z => hb (by simp [z])) q)) hf (Nat.le_refl _)
        ⟨by show 2 ≤ sizeLine; decide, [.int i tk, x'], .cons ⟨_, rfl⟩ (.cons ru .nil), ⟨_, hT2, rfl, _, rfl⟩⟩
    refine ⟨.ref s.heap.objs.size, _, I1, rfl, ⟨_, x, rfl, I.hok.fresh (Nat.le_refl _), rfl, fun ys hy => by rw [I.tuple_inj hy hq]; exact hx⟩, ⟨⟨x', ?_⟩, st'.1.at fun o q => (sb.2 it (Ne.symm hne)).trans q, hne⟩, fun b hb => ?_⟩
    · rw [show ((i + 1 : Nat) : Int) = (i : Int) + 1 by omega]; exact he'
    · have hb' : b < s.heap.objs.size := (show b = e ∨ b = it by simpa using hb).elim (fun z => by rw [z]; exact lts.1) fun z => by rw [z]; exact lts.2
      rw [upd_ne (Nat.ne_of_lt hb')]
      exact (hf b hb).1
  done := by
    intro X hP hw hK hc i pins s σ H E I hf ⟨⟨old, he⟩, hit, hne⟩ ⟨xs, hq, hx⟩
    subst hP hw hK
    obtain ⟨its, rv, p, hz⟩ := I.tuple hq
    have T : s.heap.IsTuple a its.toArray := p
    obtain ⟨f0, f1, f2, f3, f4, f5⟩ := hf it (by simp)
    have hn : i = its.toArray.size := by rw [List.size_toArray, ← rv.length]; exact hx.symm
    refine wpAny_pyNext_enum_endD (Draws.tuple (A := X.A.in1) (show X.A.in1.handled = none from I.ok.hd hc) it a (tup_apart T he hit).2 its.toArray) he (by rw [← hn]; exact ⟨hit, T⟩) fun h' eb => ⟨rfl, I.turned (t' := s.toks) (fun b o hb q => eb b o hb q) f0 f1 f3 f4 f5⟩
  self := fun A i s Q E ⟨⟨_, he⟩, _⟩ h => wpAny_pyIter_enum he h
def iEnumT (K : PySem.W.Frag) (ta : TA) : TI := fun σ H R => ta σ H fun vs H1 => ∃ a xs, vs = [.ref a] ∧ ((SqL K H1 a xs ∧ R (Ite K a) H1) ∨ (SqT K H1 a xs ∧ R (IteT K a) H1))
theorem pi_enumT {X : Cx} {e : Expr} {ta : TA} {p pos tpos : Pos} {elts : List Expr} {kk : Nat} (hg : Gl X "enumerate") (hm : X.mg "enumerate" = none) (ha : PA X [e] ta) (hs : starEach [e] X.env = [(false, eval e X.env)] := by rfl) :
    PI X (.Tuple elts kk tpos) (.Call (.Name "enumerate" p) [e] [] pos) (iEnumT X.K ta) := by
  refine ⟨fun pins s σ H R I h => Call_ (ld_blt I hg hm boot_enumerate (PyProof.Rows.callWith_type1 (thn (ha.run pos pins s σ H _ I h) fun us s1 ⟨vs, H1, I1, r1, a, xs, ex, q⟩ => ?_) hs rfl))⟩
  subst ex
  cases r1 with
  | cons r rr =>
    cases rr; cases r
    have fp : ∀ b ∈ [s1.heap.objs.size + 1, s1.heap.objs.size], s1.heap.objs.size ≤ b := fun b hb => (show b = s1.heap.objs.size + 1 ∨ b = s1.heap.objs.size by simpa using hb).elim (fun z => by rw [z]; exact Nat.le_add_right _ _) fun z => by rw [z]; exact Nat.le_refl _
    rcases q with ⟨hq, q⟩ | ⟨hq, q⟩
    · obtain ⟨its, rv, p', hz⟩ := I1.list hq
      exact call_enumerate_list p'.isList fun h' he hit hsz hk => wpAny_pyIter_enum he ⟨s1.heap.objs.size + 1, [s1.heap.objs.size + 1, s1.heap.objs.size], _, _, H1, rfl, I1.kept (t' := s1.toks) hk, turn_enum a _ _, ⟨⟨.none, he⟩, hit, Nat.succ_ne_self _⟩, fun b hb => I1.fpOk (fp b hb) (I1.hok.fresh (fp b hb)), q⟩
    · obtain ⟨its, rv, p', hz⟩ := I1.tuple hq
      exact call_enum_tup (show s1.heap.IsTuple a its.toArray from p') fun h' he hit hk => wpAny_pyIter_enum he ⟨s1.heap.objs.size + 1, [s1.heap.objs.size + 1, s1.heap.objs.size], _, _, H1, rfl, I1.kept (t' := s1.toks) hk, turn_enumT a _ _, ⟨⟨.none, he⟩, hit, Nat.succ_ne_self _⟩, fun b hb => I1.fpOk (fp b hb) (I1.hok.fresh (fp b hb)), q⟩
end DL
namespace DL
open PySem PySem.Spec PyProof.Rows L2
/-! ### enumerate, zip as sources -/
def enD : Nat → List D → List D
  | _, [] => []
  | n, x :: r => .tup [.int n, x] :: enD (n + 1) r
theorem enD_get : ∀ (xs : List D) (n i : Nat), (enD n xs)[i]? = (xs[i]?).map fun x => .tup [.int ((n + i : Nat) : Int), x]
  | [], _, _ => by simp [enD]
  | x :: r, n, 0 => rfl
  | x :: r, n, i + 1 => by
    rw [enD, List.getElem?_cons_succ, List.getElem?_cons_succ, enD_get r (n + 1) i]
    have e : n + 1 + i = n + (i + 1) := by omega
    rw [e]
theorem enD_len : ∀ (xs : List D) (n : Nat), (enD n xs).length = xs.length
  | [], _ => rfl
  | x :: r, n => by rw [enD, List.length_cons, List.length_cons, enD_len r (n + 1)]
def zpD : List D → List D → List D
  | x :: r, y :: t => .tup [x, y] :: zpD r t
  | _, _ => []
theorem zpD_get : ∀ (xs ys : List D) (i : Nat) (x y : D), xs[i]? = some x → ys[i]? = some y → (zpD xs ys)[i]? = some (.tup [x, y])
  | x :: r, y :: t, 0, _, _, e1, e2 => by cases e1; cases e2; rfl
  | x :: r, y :: t, i + 1, a, b, e1, e2 => by
    rw [List.getElem?_cons_succ] at e1 e2
    rw [zpD, List.getElem?_cons_succ]; exact zpD_get r t i a b e1 e2
  | [], _, _, _, _, e1, _ => by simp at e1
  | _ :: _, [], _, _, _, _, e2 => by simp at e2
theorem zpD_len : ∀ (xs ys : List D), (zpD xs ys).length = min xs.length ys.length
  | x :: r, y :: t => by rw [zpD, List.length_cons, List.length_cons, List.length_cons, zpD_len r t]; omega
  | [], _ => by simp [zpD]
  | _ :: _, [] => by simp [zpD]
theorem rep_lst {K : KW} {h : MH} {H : Hp} {a : Addr} {xs : List D} (r : RepH K h H) (e : stabO a xs h) : ∃ vs, H a = some (.lst vs) ∧ RepVs K H xs vs := r a (.lst xs) e
section
variable {K : KW}
/-- a new pair -/
theorem pair_rep {h : MH} {H : Hp} {T : Addr} {x y : V} {d e : D} (rh : RepH K h H) (nT : H T = none) (r1 : RepV K H d x) (r2 : RepV K H e y) :
    RepV K (upd H T (.tup [x, y])) (.tup [d, e]) (.ref T) ∧ Stp h H h (upd H T (.tup [x, y])) ∧ RepH K h (upd H T (.tup [x, y])) := by
  have m := Stp.mo rh (Stp.hide (o := .tup [x, y]) nT)
  exact ⟨⟨T, _, rfl, .inl (.inl upd_same), .cons (RepV.mono m _ r1) (.cons (RepV.mono m _ r2) .nil)⟩, Stp.hide nT, rh.hide nT⟩
theorem src_en {J : It} {H1 : Hp} {h1 : MH} {stab : MH → Prop} {xs : List D} {Sq : Hp → List V → Prop}
    (at_ : ∀ h H, Stp h1 H1 h H → RepH K h H → stab h → ∃ vs, Sq H vs ∧ RepVs K H xs vs)
    (go : ∀ i H vs v, Sq H vs → vs[i]? = some v → J.go i H) (yl : ∀ i H v H', J.yld i H v H' → ∃ T x, v = .ref T ∧ H T = none ∧ H' = upd H T (.tup [.int (i : Nat), x]) ∧ ∀ vs, Sq H vs → vs[i]? = some x) (st : ∀ H vs, Sq H vs → J.stop vs.length H) : SrcOk K J (enD 0 xs) stab h1 H1 := by
  refine ⟨fun h H i q rh sb hi => ?_, fun h H i v H' q rh sb hi y => ?_, fun h H q rh sb => ?_⟩
  · obtain ⟨vs, s, r⟩ := at_ h H q rh sb
    rw [enD_len] at hi
    obtain ⟨w, ew, _⟩ := P2.get r.pair (List.getElem?_eq_getElem hi)
    exact go i H vs w s ew
  · obtain ⟨vs, s, r⟩ := at_ h H q rh sb
    obtain ⟨T, x, rfl, nT, rfl, hx⟩ := yl i H v H' y
    obtain ⟨d, ed, rd⟩ := P2.get' r.pair (hx vs s)
    obtain ⟨a, b, c⟩ := pair_rep (d := .int (i : Nat)) (x := .int (i : Nat)) rh nT rfl rd
    exact ⟨_, by rw [enD_get, ed, Nat.zero_add]; rfl, a, b, c⟩
  · obtain ⟨vs, s, r⟩ := at_ h H q rh sb
    rw [enD_len, r.length]
    exact st H vs s
theorem src_zp {J : It} {H1 : Hp} {h1 : MH} {stab : MH → Prop} {xs ys : List D} {Sa Sb : Hp → List V → Prop}
    (at_ : ∀ h H, Stp h1 H1 h H → RepH K h H → stab h → ∃ vs us, Sa H vs ∧ RepVs K H xs vs ∧ Sb H us ∧ RepVs K H ys us)
    (go : ∀ i H vs us v u, Sa H vs → Sb H us → vs[i]? = some v → us[i]? = some u → J.go i H) (yl : ∀ i H v H', J.yld i H v H' → ∃ T x y, v = .ref T ∧ H T = none ∧ H' = upd H T (.tup [x, y]) ∧ (∀ vs, Sa H vs → vs[i]? = some x) ∧ ∀ us, Sb H us → us[i]? = some y)
    (st : ∀ H vs us, Sa H vs → Sb H us → J.stop (min vs.length us.length) H) : SrcOk K J (zpD xs ys) stab h1 H1 := by
  refine ⟨fun h H i q rh sb hi => ?_, fun h H i v H' q rh sb hi y => ?_, fun h H q rh sb => ?_⟩
  · obtain ⟨vs, us, s, r, s2, r2⟩ := at_ h H q rh sb
    rw [zpD_len] at hi
    obtain ⟨w, ew, _⟩ := P2.get r.pair (List.getElem?_eq_getElem (show i < xs.length by omega))
    obtain ⟨w2, ew2, _⟩ := P2.get r2.pair (List.getElem?_eq_getElem (show i < ys.length by omega))
    exact go i H vs us w w2 s s2 ew ew2
  · obtain ⟨vs, us, s, r, s2, r2⟩ := at_ h H q rh sb
    obtain ⟨T, x, y, rfl, nT, rfl, hx, hy⟩ := yl i H v H' y
    obtain ⟨d, ed, rd⟩ := P2.get' r.pair (hx vs s)
    obtain ⟨e, ee, re⟩ := P2.get' r2.pair (hy us s2)
    obtain ⟨a, b, c⟩ := pair_rep rh nT rd re
    exact ⟨_, zpD_get _ _ _ _ _ ed ee, a, b, c⟩
  · obtain ⟨vs, us, s, r, s2, r2⟩ := at_ h H q rh sb
    rw [zpD_len, r.length, r2.length]
    exact st H vs us s s2
end
def enO (a : Addr) (h : MH) (Q : List D → (MH → Prop) → MH → Prop) : Option MO → Prop
  | some (.lst xs) => Q (enD 0 xs) (stabO a xs) h
  | _ => False
def enK (ds : List D) (h : MH) (Q : List D → (MH → Prop) → MH → Prop) : Prop := match ds with
  | [.tup xs] => Q (enD 0 xs) (fun _ => True) h
  | [.ref a] => enO a h Q (h a)
  | _ => False
def iEn (ta : A1) : I1 := fun σ h Q => ta σ h fun ds h1 => enK ds h1 Q
def zpO (a b : Addr) (h : MH) (Q : List D → (MH → Prop) → MH → Prop) : Option MO → Option MO → Prop
  | some (.lst xs), some (.lst ys) => Q (zpD xs ys) (fun h => stabO a xs h ∧ stabO b ys h) h
  | _, _ => False
def zpK (ds : List D) (h : MH) (Q : List D → (MH → Prop) → MH → Prop) : Prop := match ds with
  | [.tup xs, .tup ys] => Q (zpD xs ys) (fun _ => True) h
  | [.ref a, .ref b] => zpO a b h Q (h a) (h b)
  | _ => False
def iZp (ta : A1) : I1 := fun σ h Q => ta σ h fun ds h1 => zpK ds h1 Q
section
variable {X : Cx}
theorem di_enum {e : Expr} {ta : A1} {p pos tpos : Pos} {elts : List Expr} {kk : Nat} (hg : Gl X "enumerate") (hm : X.mg "enumerate" = none) (ha : DA X [e] ta) (hs : starEach [e] X.env = [(false, eval e X.env)] := by rfl) :
    DI X (.Tuple elts kk tpos) (.Call (.Name "enumerate" p) [e] [] pos) (iEn ta) :=
  weakI (pi_enumT hg hm ha hs) fun σV H R ⟨σ, h, Q, hE, hH, ht, hc⟩ => ⟨σ, h, _, hE, hH, ht, fun ds h' vs H' s' r' rv q => by
    have q : enK ds h' Q := q
    unfold enK at q
    split at q
    · rename_i xs
      obtain ⟨v, r, rfl, r1, r2⟩ := rv
      cases (show r = [] from r2)
      obtain ⟨a, us, rfl, sq, ru⟩ := r1
      refine ⟨a, us, rfl, .inr ⟨sq, hc _ _ _ _ _ s' r' (src_en (Sq := fun H vs => SqT X.K H a vs) (fun h2 H2 q2 _ _ => ⟨us, (Stp.mo r' q2).t _ _ sq, RepVs.mono (Stp.mo r' q2) _ ru⟩) (fun i H vs v s e => ⟨vs, v, s, e⟩) (fun i H v H' y => y) fun H vs s => ⟨vs, s, rfl⟩) q⟩⟩
    · rename_i a _
      obtain ⟨v, r, rfl, r1, r2⟩ := rv
      cases (show r = [] from r2)
      cases (show v = .ref a from r1)
      cases e : h' a with
      | none => rw [e] at q; exact q.elim
      | some o =>
        rw [e] at q
        cases o with
        | lst xs =>
          obtain ⟨us, eH, ru⟩ := r' a _ e
          refine ⟨a, us, rfl, .inl ⟨SqL.of eH, hc _ _ _ _ _ s' r' (src_en (Sq := fun H vs => SqL X.K H a vs) (fun h2 H2 _ rh sb => let ⟨ws, e2, rw2⟩ := rep_lst rh sb; ⟨ws, SqL.of e2, rw2⟩) (fun i H vs v s e => ⟨vs, v, s, e⟩) (fun i H v H' y => y) fun H vs s => ⟨vs, s, Nat.le_refl _⟩) q⟩⟩
        | dic _ => exact q.elim
        | ins _ _ => exact q.elim
    · exact q.elim⟩
theorem di_zip {e e2 : Expr} {ta : A1} {p pos tpos : Pos} {elts : List Expr} {kk : Nat} (hg : Gl X "zip") (hm : X.mg "zip" = none) (ha : DA X [e, e2] ta)
    (hs : starEach [e, e2] X.env = (false, eval e X.env) :: starEach [e2] X.env := by rfl) (hpl : (backTo pos (starEach [e2] X.env)).any (·.1) = false := by rfl) :
    DI X (.Tuple elts kk tpos) (.Call (.Name "zip" p) [e, e2] [] pos) (iZp ta) :=
  weakI (RZ.pi_zipA hg hm ha hs hpl) fun σV H R ⟨σ, h, Q, hE, hH, ht, hc⟩ => ⟨σ, h, _, hE, hH, ht, fun ds h' vs H' s' r' rv q => by
    have q : zpK ds h' Q := q
    unfold zpK at q
    split at q
    · rename_i xs ys
      obtain ⟨v, r, rfl, r1, v2, r2, rfl, r3, r4⟩ := rv
      cases (show r2 = [] from r4)
      obtain ⟨a, us, rfl, sq, ru⟩ := r1
      obtain ⟨b, ws, rfl, sq2, rw2⟩ := r3
      refine ⟨a, b, us, ws, rfl, .inr ⟨sq, sq2, hc _ _ _ _ _ s' r' (src_zp (Sa := fun H vs => SqT X.K H a vs) (Sb := fun H vs => SqT X.K H b vs) (fun h2 H2 q2 _ _ => ⟨us, ws, (Stp.mo r' q2).t _ _ sq, RepVs.mono (Stp.mo r' q2) _ ru, (Stp.mo r' q2).t _ _ sq2, RepVs.mono (Stp.mo r' q2) _ rw2⟩)
        (fun i H vs us v u s s2 e e2 => ⟨vs, us, v, u, s, s2, e, e2⟩) (fun i H v H' y => y) fun H vs us s s2 => ⟨vs, us, s, s2, by omega⟩) q⟩⟩
    · rename_i a b _
      obtain ⟨v, r, rfl, r1, v2, r2, rfl, r3, r4⟩ := rv
      cases (show r2 = [] from r4)
      cases (show v = .ref a from r1)
      cases (show v2 = .ref b from r3)
      have q : zpO a b h' Q (h' a) (h' b) := q
      cases e : h' a with
      | none => rw [e] at q; exact (show False from q).elim
      | some o =>
        cases f : h' b with
        | none => rw [e, f] at q; cases o <;> exact (show False from q).elim
        | some o2 =>
          rw [e, f] at q
          cases o <;> cases o2 <;> first | (exact (show False from q).elim) | skip
          rename_i xs ys
          obtain ⟨us, eH, ru⟩ := r' a _ e
          obtain ⟨ws, fH, rw2⟩ := r' b _ f
          refine ⟨a, b, us, ws, rfl, .inl ⟨SqL.of eH, SqL.of fH, hc _ _ _ _ _ s' r' (src_zp (Sa := fun H vs => SqL X.K H a vs) (Sb := fun H vs => SqL X.K H b vs) (fun h2 H2 _ rh sb => let ⟨x1, e2, x2⟩ := rep_lst rh sb.1; let ⟨y1, f2, y2⟩ := rep_lst rh sb.2; ⟨x1, y1, SqL.of e2, x2, SqL.of f2, y2⟩)
            (fun i H vs us v u s s2 e e2 => ⟨vs, us, v, u, s, s2, e, e2⟩) (fun i H v H' y => y) fun H vs us s s2 => ⟨vs, us, s, s2, by omega⟩) q⟩⟩
    · exact q.elim⟩
end
end DL
namespace DL
open PySem PySem.Spec PyProof.Rows L2
/-! ### repr: its signs are signs -/
def okC (x : Str) : Prop := PyData.strOk x = true
theorem okC_iff {x : Str} : okC x ↔ ∀ c ∈ x.cps.toList, c < 0x110000 := by
  unfold okC PyData.strOk
  rw [← Array.all_toList, List.all_eq_true]
  simp
theorem okC.app {x y : Str} (a : okC x) (b : okC y) : okC (x ++ y) := by
  rw [okC_iff] at a b ⊢
  intro c hc
  have hc : c ∈ (x.cps ++ y.cps).toList := hc
  rw [Array.toList_append, List.mem_append] at hc
  exact hc.elim (a c) (b c)
theorem char_ok (c : Char) : c.toNat < 0x110000 := by
  have h := c.valid
  unfold Char.toNat
  rcases h with h | h <;> omega
theorem okC_of (s : String) : okC (Str.ofString s) := by
  rw [okC_iff]
  intro c hc
  rw [Str.ofString_eq_toList] at hc
  have hc : c ∈ s.toList.map Char.toNat := by simpa using hc
  simp only [List.mem_map] at hc
  obtain ⟨d, _, rfl⟩ := hc
  exact char_ok d
theorem hex_ok (n c : Nat) : ∀ d ∈ List.replicate n 48 ++ (Nat.toDigits 16 c).map Char.toNat, d < 0x110000 := by
  intro d hd
  rcases List.mem_append.mp hd with hd | hd
  · rw [(List.mem_replicate.mp hd).2]; decide
  · obtain ⟨e, _, rfl⟩ := List.mem_map.mp hd
    exact char_ok e
theorem reprChar_ok (q c : Nat) (hc : c < 0x110000) : ∀ d ∈ Builtin.Str.reprChar q c, d < 0x110000 := by
  have cons : ∀ {x : Nat} {l : List Nat}, x < 0x110000 → (∀ d ∈ l, d < 0x110000) → ∀ d ∈ x :: l, d < 0x110000 := fun hx hl d hd => (List.mem_cons.mp hd).elim (fun e => by rw [e]; exact hx) (hl d)
  have nil : ∀ d ∈ ([] : List Nat), d < 0x110000 := by simp
  unfold Builtin.Str.reprChar
  dsimp only
  repeat' split
  all_goals first
    | exact cons (by decide) (cons hc nil)
    | exact cons (by decide) (cons (by decide) nil)
    | exact cons hc nil
    | exact cons (by decide) (cons (by decide) (hex_ok _ _))
theorem foldl_ok (q : Nat) : ∀ (l : List Nat) (acc : Array Nat), (∀ c ∈ l, c < 0x110000) → (∀ c ∈ acc.toList, c < 0x110000) → ∀ c ∈ (l.foldl (fun out c => out ++ (Builtin.Str.reprChar q c).toArray) acc).toList, c < 0x110000
  | [], acc, _, h => h
  | c :: r, acc, h, ha => by
    rw [List.foldl_cons]
    refine foldl_ok q r _ (fun d hd => h d (by simp [hd])) fun d hd => ?_
    rw [Array.toList_append, List.mem_append] at hd
    exact hd.elim (ha d) (reprChar_ok q c (h c (by simp)) d)
theorem okC_repr {x : Str} (h : okC x) : okC (reprText x) := by
  rw [okC_iff] at h ⊢
  unfold reprText
  have qq : reprQuote x < 0x110000 := by unfold reprQuote; split <;> decide
  intro c hc
  have hc : c ∈ ((x.cps.foldl (fun out c => out ++ (Builtin.Str.reprChar (reprQuote x) c).toArray) #[reprQuote x]).push (reprQuote x)).toList := hc
  rw [Array.toList_push, List.mem_append, ← Array.foldl_toList] at hc
  rcases hc with hc | hc
  · exact foldl_ok _ _ _ h (fun d hd => by
      have e : d = reprQuote x := by simpa using hd
      rw [e]; exact qq) c hc
  · have : c = reprQuote x := by simpa using hc
    rw [this]; exact qq
theorem okC_join {sep : Str} (hs : okC sep) : ∀ {ts : List Str}, (∀ t ∈ ts, okC t) → okC (Str.join sep ts)
  | [], _ => okC_of ""
  | [x], h => h x (by simp)
  | x :: y :: r, h => by
    show okC (x ++ sep ++ Str.join sep (y :: r))
    exact ((h x (by simp)).app hs).app (okC_join hs fun t ht => h t (by simp [ht]))
theorem okC_from : ∀ {ts : List Str} {k : Nat} {acc : Str}, (∀ t ∈ ts, okC t) → okC acc → okC (textFrom k acc ts)
  | [], _, _, _, a => a
  | t :: ts, k, acc, h, a => by
    show okC (textFrom (k + 1) (acc ++ (if k > 0 then ", " else "" : String) ++ t) ts)
    exact okC_from (fun u hu => h u (by simp [hu])) ((a.app (okC_of _)).app (h t (by simp)))
mutual
theorem okC_shown {K : KW} {H : Hp} : ∀ (n : Nat) (d : D) {v : V}, pure? n d = true → RepV K H d v → okC (pd d).shown
  | _, .none, _, _, _ => okC_of "None"
  | _, .bool b, _, _, _ => by cases b <;> exact okC_of _
  | _, .int i, _, _, _ => okC_of _
  | _, .str x, _, _, r => okC_repr r.2.2
  | 0, .tup ds, _, h, _ => by simp [pure?] at h
  | n + 1, .tup ds, _, h, r => by
    have h' : pures? n ds = true := by simpa [pure?] using h
    obtain ⟨_, _, _, _, rs⟩ := r
    have hs := okC_showns n ds h' rs
    show okC (tupleText (PyData.shownAll (pds ds)))
    unfold tupleText
    refine ((okC_of "(").app (okC_join (okC_of ", ") hs)).app ?_
    split <;> exact okC_of _
  | 0, .rol ds, _, h, _ => by simp [pure?] at h
  | n + 1, .rol ds, _, h, r => by
    have h' : pures? n ds = true := by simpa [pure?] using h
    obtain ⟨_, _, _, _, rs⟩ := r
    have hs := okC_showns n ds h' rs
    show okC (listText (PyData.shownAll (pds ds)))
    unfold listText
    exact (okC_from hs (okC_of "[")).app (okC_of "]")
  | n, .ref _, _, h, _ => by simp [pure?] at h
  | n, .ty _, _, h, _ => by simp [pure?] at h
theorem okC_showns {K : KW} {H : Hp} : ∀ (n : Nat) (ds : List D) {vs : List V}, pures? n ds = true → RepVs K H ds vs → ∀ t ∈ PyData.shownAll (pds ds), okC t
  | _, [], _, _, _ => by simp [pds, PyData.shownAll]
  | n, d :: ds, _, h, r => by
    have h' : pure? n d = true ∧ pures? n ds = true := by simpa [pures?] using h
    obtain ⟨_, _, _, r1, r2⟩ := r
    intro t ht
    rw [pds, PyData.shownAll] at ht
    rcases List.mem_cons.mp ht with rfl | ht
    · exact okC_shown n d h'.1 r1
    · exact okC_showns n ds h'.2 r2 t ht
end
end DL
namespace DL
open PySem PySem.Spec PyProof.Rows L2
/-! ### repr -/
def reprD (x : D) (h : MH) (Q : KD) : Prop := pure? 60 x = true ∧ (pd x).showable = true ∧ (pd x).shown.length ≤ sizeLine ∧ Q (.str (pd x).shown) h
mutual
theorem pd_noDict : ∀ d : D, (pd d).hasDict = false
  | .none => rfl
  | .bool _ => rfl
  | .int _ => rfl
  | .str _ => rfl
  | .ref _ => rfl
  | .ty _ => rfl
  | .tup ds => by show PyData.hasDictAll (pds ds) = false; exact pds_noDict ds
  | .rol ds => by show PyData.hasDictAll (pds ds) = false; exact pds_noDict ds
theorem pds_noDict : ∀ ds : List D, PyData.hasDictAll (pds ds) = false
  | [] => rfl
  | d :: ds => by rw [pds, PyData.hasDictAll, pd_noDict d, pds_noDict ds]; rfl
end
section
variable {X : Cx}
theorem xd_repr (hu : X.A.units + 65 < cLine) (hg : X.A.guards = some []) : CallR X (.builtin "repr") (lowC X.kw (on1 reprD)) := by
  intro pins s σ H xs us QV I rx ⟨ds, h, Q, rv, hH, hr, hc⟩
  obtain ⟨d, rfl, p, sh, len, q⟩ := on1_inv hr
  obtain ⟨x, rfl, rd⟩ := rep1 rv
  have ok : okS (pd d).shown := ⟨len, okC_shown 60 d p rd⟩
  have fin : QV (.str (pd d).shown) H := hc (.str _) h _ H Stp.refl hH ⟨rfl, ok⟩ q
  cases rx with
  | cons r1 r2 =>
    cases r2
    have big : ∀ {a : Addr}, x = .ref a → wpAny (model X.prog X.w) X.A (call (.builtin "repr") [.ref a]) (EP X pins σ QV) X.xe s := by
      rintro a rfl
      obtain ⟨dp, _⟩ := dp_of rd p
      obtain ⟨as, rr⟩ := Dp.reads I (pd d) (.ref a) (.ref a) dp rfl
      have dep := pd_depth 60 d p
      exact repr_of_reads' rr sh (fun z => by rw [pd_noDict] at z; cases z) hg (by omega) (fun _ _ e => e) (fun h' u tk hk => ⟨.str _, H, I.kept (t' := tk) hk, ⟨u, rfl⟩, fin⟩) len
    cases d with
    | none => cases (show x = _ from rd); cases r1; exact PySem.P.repr_of_none ⟨.str _, H, I.tok _, ⟨_, rfl⟩, fin⟩
    | bool b => cases (show x = _ from rd); cases r1; exact PySem.P.repr_of_bool ⟨.str _, H, I.tok _, ⟨_, rfl⟩, by cases b <;> exact fin⟩
    | int i =>
      cases (show x = _ from rd)
      obtain ⟨t, rfl⟩ := r1
      exact PySem.P.repr_of_int (of_decide_eq_true sh) ⟨.str _, H, I.tok _, ⟨_, rfl⟩, fin⟩
    | str z =>
      obtain ⟨rfl, _⟩ := rd
      obtain ⟨t, rfl⟩ := r1
      exact PySem.P.repr_of_str ⟨.str _, H, I.tok _, ⟨_, rfl⟩, fin⟩ len
    | tup ds =>
      obtain ⟨a, vs, ex, _⟩ := id rd
      have := big ex
      subst ex
      cases r1; exact this
    | rol ds =>
      obtain ⟨a, vs, ex, _⟩ := id rd
      have := big ex
      subst ex
      cases r1; exact this
    | ref _ => simp [pure?] at p
    | ty _ => simp [pure?] at p
/-! ### str(i), str(text) -/
def strD (x : D) (h : MH) (Q : KD) : Prop := match x with
  | .int i => i.natAbs.log2 < 1920 ∧ Q (.str (Str.ofString (toString i))) h
  | .str z => Q (.str z) h
  | _ => False
theorem int_len (i : Int) (h : i.natAbs.log2 < 1920) : (Str.ofString (toString i)).length ≤ sizeLine := int_text_fits h
theorem xd_str : CallR X (.type "str") (lowC X.kw (on1 strD)) := callR_1 fun x d h H Q QV rx hH hr hc => by
  cases d <;> try exact hr.elim
  case int i =>
    cases (show x = _ from rx)
    exact ⟨_, call_str_int, i, rfl, hr.1, hc.str hH ⟨int_len i hr.1, okC_of _⟩ hr.2⟩
  case str z =>
    obtain ⟨rfl, ok⟩ := rx
    exact ⟨_, SkE.call_str_str, z, rfl, hc.str hH ok hr⟩
/-! ### max, min of a list -/
def maxLD (x : D) (h : MH) (Q : KD) : Prop := intsK (fun ns => 0 < ns.length ∧ ∀ m, m ∈ ns → (∀ y, y ∈ ns → y ≤ m) → Q (.int m) h) h x
def minLD (x : D) (h : MH) (Q : KD) : Prop := intsK (fun ns => 0 < ns.length ∧ ∀ m, m ∈ ns → (∀ y, y ∈ ns → m ≤ y) → Q (.int m) h) h x
theorem xd_maxL (hc : X.calm = true) : CallR X (.builtin "max") (lowC X.kw (on1 maxLD)) := callR_1 fun x d h H Q QV rx hH hr hcl => by
  obtain ⟨a, ns, rfl, s, p, q⟩ := intsK_rep hH rx hr
  exact ⟨_, cr_max hc, a, ns, rfl, s, p, fun m hm hy => hcl.int hH (q m hm hy)⟩
theorem xd_minL (hc : X.calm = true) : CallR X (.builtin "min") (lowC X.kw (on1 minLD)) := callR_1 fun x d h H Q QV rx hH hr hcl => by
  obtain ⟨a, ns, rfl, s, p, q⟩ := intsK_rep hH rx hr
  exact ⟨_, cr_min hc, a, ns, rfl, s, p, fun m hm hy => hcl.int hH (q m hm hy)⟩
end
end DL
namespace DL
open PySem PySem.Spec PyProof.Rows L2
/-! two dicts of numbers by texts that are one: != says no -/
def isI : D → Bool
  | .int _ => true
  | _ => false
def dicEq (h : MH) (x y : D) (k : Prop) : Prop := ∃ a b ks ls, x = .ref a ∧ y = .ref b ∧ h a = some (.dic ks) ∧ h b = some (.dic ls) ∧ ks ≠ [] ∧ ls ≠ [] ∧ ks.length = ls.length ∧ (∀ p ∈ ks, (scaK p.1).isSome = true) ∧ (∀ p ∈ ls, (scaK p.1).isSome = true) ∧ (∀ p ∈ ks, dget ls p.1 = some p.2 ∧ isI p.2 = true) ∧ k
def neDX : R1 := fun x y h Q => neD x y h Q ∨ dicEq h x y (Q (.bool false) h)
theorem dicK {K : KW} {H : Hp} {a : Addr} {ks : Kvs} (r : RepO K H a (.dic ks)) (ne : ks ≠ []) (s : ∀ p ∈ ks, (scaK p.1).isSome = true) : ∃ kv, H a = some (.dK kv) ∧ RepKs K H ks kv := by
  rcases r with r | ⟨xs, r⟩
  · exact r
  · cases ks with
    | nil => exact absurd rfl ne
    | cons p r' =>
      have h1 := r.tup p (by simp)
      have h2 := s p (by simp)
      cases e : p.1 <;> rw [e] at h1 h2 <;> first | (cases h1; done) | (cases h2; done)
theorem od_neX {X : Cx} (hu : X.A.units + 64 < cLine) : OpR X (compareOp .NotEq) (lowR X.kw neDX) := opR_of fun x y H QV ⟨d, e, h, Q, rx, ry, hH, hr, hc⟩ => by
  rcases hr with hr | ⟨a, b, ks, ls, rfl, rfl, ea, eb, n1, n2, hl, s1, s2, hk, q⟩
  · exact ⟨_, od_ne hu, d, e, h, Q, rx, ry, hH, hr, hc⟩
  · cases (show x = _ from rx)
    cases (show y = _ from ry)
    obtain ⟨kv, eH, r1⟩ := dicK (hH _ _ ea) n1 s1
    obtain ⟨lv, eL, r2⟩ := dicK (hH _ _ eb) n2 s2
    refine ⟨_, op_ne_dictA (by omega), a, b, kv, lv, rfl, rfl, eH, eL, by rw [← Paired.length r1, ← Paired.length r2]; exact hl, fun q hq => ?_, hc.bl hH q⟩
    obtain ⟨i, hi⟩ := List.getElem?_of_mem hq
    obtain ⟨p, hp, e1, e2, e3⟩ := P2.get' r1 hi
    obtain ⟨g1, g2⟩ := hk p (List.mem_of_getElem? hp)
    have := dget_K r2 e1
    rw [g1] at this
    obtain ⟨v, ev, rv⟩ := RO.some_ this rfl
    cases ep : p.2 <;> rw [ep] at g2 <;> first | (cases g2; done) | skip
    rw [ep] at rv e3
    cases (show v = _ from rv)
    have e3 : q.2 = _ := e3
    rw [e3]
    exact ⟨ev, rfl⟩
end DL
namespace DL
open PySem PySem.Spec PyProof.Rows L2
/-! ### zip(tuple, text) -/
def ItzS (K : PySem.W.Frag) (a : Addr) (z : Str) : It :=
  ⟨fun i H => ∃ (xs : List V) (x : V) (c : Nat), SqT K H a xs ∧ xs[i]? = some x ∧ z.cps[i]? = some c,
    fun i H v H' => ∃ T x c, v = .ref T ∧ H T = none ∧ H' = upd H T (.tup [x, .str ⟨#[c]⟩]) ∧ (∀ xs, SqT K H a xs → xs[i]? = some x) ∧ z.cps[i]? = some c,
    fun i H => ∃ xs : List V, SqT K H a xs ∧ (i = xs.length ∨ i = z.cps.size) ∧ i ≤ xs.length ∧ i ≤ z.cps.size⟩
theorem turn_zipTS {P : Program} {w : World} {K : PySem.W.Frag} {elts : List Expr} {kk : Nat} {tpos : Pos} {a q TI TO i1 i2 : Addr} {z : Str} {t : Tok} (D : ZipSep2 q TI TO i1 i2 [i1, a] [i2]) :
    Turn P w K (.Tuple elts kk tpos) (ItzS K a z) [q, TI, TO, i1, i2] q (fun i h => IsZip h q TI TO .none ∧ IsTupOf2 h TI (.ref i1) (.ref i2) ∧ (∃ x y, IsTupOf2 h TO x y) ∧ h.IsTupleIter i1 a i ∧ h.IsStrIter i2 (strIterType z) z t i) where
  mem := by simp
  obj := fun i h st c hc => by
    obtain ⟨hz, hTI, ⟨x, y, hTO⟩, ⟨o1, e1, _, d1⟩, ⟨o2, e2, _, d2⟩⟩ := st
    have e' : c = q ∨ c = TI ∨ c = TO ∨ c = i1 ∨ c = i2 := by simpa using hc
    rcases e' with rfl | rfl | rfl | rfl | rfl
    · exact ⟨_, hz, fun v e => nomatch e⟩
    · exact ⟨_, hTI, fun v e => nomatch e⟩
    · exact ⟨_, hTO, fun v e => nomatch e⟩
    · exact ⟨o1, e1, fun v e => by rw [d1] at e; cases e⟩
    · exact ⟨o2, e2, fun v e => by rw [d2] at e; cases e⟩
  keep := fun i h h' st k => by
    obtain ⟨hz, hTI, ⟨x, y, hTO⟩, h1, ⟨o2, e2, r2⟩⟩ := st
    exact ⟨k q (by simp) _ hz, k TI (by simp) _ hTI, ⟨x, y, k TO (by simp) _ hTO⟩, h1.at fun o e => k i1 (by simp) o e, ⟨o2, k i2 (by simp) o2 e2, r2⟩⟩
  item := by
    intro X hP hw hK hc i pins s σ H E I hf st hg
    subst hP hw hK
    obtain ⟨hz, hTI, ⟨x0, y0, hTO⟩, h1, h2⟩ := st
    obtain ⟨xs, x, c, hqx, hx, hcx⟩ := hg
    obtain ⟨its, rv, p, _⟩ := I.tuple hqx
    obtain ⟨u, hu, ru⟩ := rv.get hx
    have T : s.heap.IsTuple a its.toArray := p
    have hd : X.A.in1.handled = none := I.ok.hd hc
    have ai : a ≠ i1 := fun e => by
      obtain ⟨o, e1, c1, _⟩ := T
      obtain ⟨o2, e2, c2, _⟩ := h1
      subst e; rw [e1] at e2; cases e2; rw [c1] at c2; exact absurd (Value.type.inj c2) (by decide)
    have lt1 : i < its.toArray.size := by have := (List.getElem?_eq_some_iff.mp hu).1; simpa using this
    have lt2 : i < z.cps.size := (Array.getElem?_eq_some_iff.mp hcx).1
    have hzl : q < s.heap.objs.size := Heap.lt_size hz
    refine wpAny_pyNext_zipD2_item D (Draws.tuple hd i1 a ai its.toArray) (Draws.text hd i2 z t) hz hTI hTO ⟨h1, T⟩ h2 lt1 lt2 fun x1 x2 h' tk p1 p2 z' TO' s1' s2' hT hsz hk => ?_
    have ex : x1 = u := by
      have p1 : its.toArray[i]? = some x1 := p1
      rw [List.getElem?_toArray, hu] at p1
      exact (Option.some.inj p1).symm
    obtain ⟨c', u2, hc2, ex2⟩ := p2
    rw [hcx] at hc2
    cases hc2
    subst ex ex2
    refine ⟨_, rfl, wpAny_letOwnedTupleGo_zip (s := { s with heap := h', toks := tk }) z' fun h'' z'' sb => ?_⟩
    have hT2 : h''.get? s.heap.objs.size = some { cls := .type "tuple", data := .seq #[x1, .str ⟨#[c]⟩ u2] } := (sb.2 _ (Nat.ne_of_gt hzl)).trans hT
    have I1 : Inv X pins σ (upd H s.heap.objs.size (.tup [x, .str ⟨#[c]⟩])) { s with heap := h'', toks := tk } :=
      I.turnedNew (ch := [q, TI, TO, i1, i2]) (fun b o hb e => (sb.2 b (fun w => hb (by simp [w]))).trans (hk b o (fun w => hb (by simp [w])) (fun w => hb (by simp [w])) (fun w => hb (by simp [w])) (fun w => hb (by simp [w])) e)) hf (Nat.le_refl _)
        ⟨by show 2 ≤ sizeLine; decide, [x1, .str ⟨#[c]⟩ u2], .cons ru (.cons ⟨_, rfl⟩ .nil), ⟨_, hT2, rfl, _, rfl⟩⟩
    refine ⟨.ref s.heap.objs.size, _, I1, rfl, ⟨_, x, c, rfl, I.hok.fresh (Nat.le_refl _), rfl, fun l hl => by rw [I.tuple_inj hl hqx]; exact hx, hcx⟩, ⟨z'', ?_, ⟨x1, .str ⟨#[c]⟩ u2, ?_⟩, ?_, ?_⟩, fun b hb => ?_⟩
    · exact (sb.2 _ D.TIz).trans (hk _ _ D.TIz D.TITO D.TIi1 D.TIi2 hTI)
    · exact (sb.2 _ D.TOz).trans TO'
    · exact s1'.1.at fun o e => (sb.2 _ (Ne.symm D.zi1)).trans e
    · obtain ⟨o2, e2, r2⟩ := s2'
      exact ⟨o2, (sb.2 _ (Ne.symm D.zi2)).trans e2, r2⟩
    · have hlt : b < s.heap.objs.size := by
        have e' : b = q ∨ b = TI ∨ b = TO ∨ b = i1 ∨ b = i2 := by simpa using hb
        rcases e' with rfl | rfl | rfl | rfl | rfl
        · exact hzl
        · exact Heap.lt_size hTI
        · exact Heap.lt_size hTO
        · obtain ⟨_, e1, _⟩ := h1; exact Heap.lt_size e1
        · obtain ⟨_, e2, _⟩ := h2; exact Heap.lt_size e2
      rw [upd_ne (Nat.ne_of_lt hlt)]
      exact (hf b hb).1
  done := by
    intro X hP hw hK hc i pins s σ H E I hf st hg
    subst hP hw hK
    obtain ⟨hz, hTI, ⟨x0, y0, hTO⟩, h1, h2⟩ := st
    obtain ⟨xs, hqx, hend, le1, le2⟩ := hg
    obtain ⟨its, rv, p, _⟩ := I.tuple hqx
    have T : s.heap.IsTuple a its.toArray := p
    have hd : X.A.in1.handled = none := I.ok.hd hc
    have ai : a ≠ i1 := fun e => by
      obtain ⟨o, e1, c1, _⟩ := T
      obtain ⟨o2, e2, c2, _⟩ := h1
      subst e; rw [e1] at e2; cases e2; rw [c1] at c2; exact absurd (Value.type.inj c2) (by decide)
    have en : its.toArray.size = xs.length := by rw [List.size_toArray]; exact rv.length.symm
    refine wpAny_pyNext_zipD2_end D (Draws.tuple hd i1 a ai its.toArray) (Draws.text hd i2 z t) hz hTI hTO ⟨h1, T⟩ h2 (by omega) le2 (by rw [en]; exact hend) fun h' tk hk => ⟨rfl, ?_⟩
    exact I.turnedL (ch := [q, TI, TO, i1, i2]) (fun b o hb e => hk b o (fun w => hb (by simp [w])) (fun w => hb (by simp [w])) (fun w => hb (by simp [w])) (fun w => hb (by simp [w])) e) hf
  self := fun A i s Q E st h => wpAny_pyIter_zip st.1 h
def iZipS (K : PySem.W.Frag) (ta : TA) : TI := fun σ H R => ta σ H fun vs H1 => ∃ a xs z, vs = [.ref a, .str z] ∧ SqT K H1 a xs ∧ R (ItzS K a z) H1
theorem pi_zipS {X : Cx} {e e2 : Expr} {ta : TA} {p pos tpos : Pos} {elts : List Expr} {kk : Nat} (hg : Gl X "zip") (hm : X.mg "zip" = none) (ha : PA X [e, e2] ta)
    (hs : starEach [e, e2] X.env = (false, eval e X.env) :: starEach [e2] X.env := by rfl) (hpl : (backTo pos (starEach [e2] X.env)).any (·.1) = false := by rfl) :
    PI X (.Tuple elts kk tpos) (.Call (.Name "zip" p) [e, e2] [] pos) (iZipS X.K ta) := by
  refine ⟨fun pins s σ H R I h => ?_⟩
  refine Call_ (ld_blt I hg hm PyProof.Rows.boot_zip (PyProof.Rows.callWith_type1 (thn (ha.run pos pins s σ H _ I h) fun us s1 ⟨vs, H1, I1, r1, a, xs, z, ex, hqx, q⟩ => ?_) hs hpl))
  subst ex
  cases r1 with
  | cons r rr =>
    cases rr with
    | cons r' rr =>
      cases rr
      cases r
      obtain ⟨t, rfl⟩ := r'
      obtain ⟨its, rv, p1, _⟩ := I1.tuple hqx
      obtain ⟨o1, ho1, _⟩ := id p1
      have la : a < s1.heap.objs.size := Heap.lt_size ho1
      refine zip_begins2 (begins_tuple a its.toArray) (begins_text z t) (show s1.heap.IsTuple a its.toArray from p1) trivial fun h' hz hTI hTO h1 h2 hsz hk => wpAny_pyIter_zip hz ?_
      have I2 : Inv X pins σ H1 { s1 with heap := h' } := I1.kept (t' := s1.toks) hk
      refine ⟨s1.heap.objs.size + 4, [s1.heap.objs.size + 4, s1.heap.objs.size + 2, s1.heap.objs.size + 3, s1.heap.objs.size, s1.heap.objs.size + 1], _, _, H1, rfl, I2, turn_zipTS (t := t) (zip_sep2 (fp1 := [a]) (fp2 := []) (by simpa using la) (by simp)), ⟨hz, hTI, ⟨_, _, hTO⟩, ⟨_, h1, rfl, rfl⟩, ⟨_, h2, rfl, rfl⟩⟩, fun c hc => ?_, q⟩
      have hle : s1.heap.objs.size ≤ c := by
        have e' : c = s1.heap.objs.size + 4 ∨ c = s1.heap.objs.size + 2 ∨ c = s1.heap.objs.size + 3 ∨ c = s1.heap.objs.size ∨ c = s1.heap.objs.size + 1 := by simpa using hc
        rcases e' with e | e | e | e | e <;> rw [e] <;> first | exact Nat.le_add_right _ _ | exact Nat.le_refl _
      exact I1.fpOk hle (I1.hok.fresh hle)
def zsK (ds : List D) (h : MH) (Q : List D → (MH → Prop) → MH → Prop) : Prop := match ds with
  | [.tup xs, .str z] => Q (zpD xs (signs z)) (fun _ => True) h
  | _ => False
def iZs (ta : A1) : I1 := fun σ h Q => ta σ h fun ds h1 => zsK ds h1 Q
theorem di_zipS {X : Cx} {e e2 : Expr} {ta : A1} {p pos tpos : Pos} {elts : List Expr} {kk : Nat} (hg : Gl X "zip") (hm : X.mg "zip" = none) (ha : DA X [e, e2] ta)
    (hs : starEach [e, e2] X.env = (false, eval e X.env) :: starEach [e2] X.env := by rfl) (hpl : (backTo pos (starEach [e2] X.env)).any (·.1) = false := by rfl) :
    DI X (.Tuple elts kk tpos) (.Call (.Name "zip" p) [e, e2] [] pos) (iZs ta) :=
  weakI (pi_zipS hg hm ha hs hpl) fun σV H R ⟨σ, h, Q, hE, hH, ht, hc⟩ => ⟨σ, h, _, hE, hH, ht, fun ds h' vs H' s' r' rv q => by
    have q : zsK ds h' Q := q
    unfold zsK at q
    split at q
    · rename_i xs z _
      obtain ⟨v, r, rfl, r1, v2, r2, rfl, r3, r4⟩ := rv
      cases (show r2 = [] from r4)
      obtain ⟨a, us, rfl, sq, ru⟩ := r1
      obtain ⟨rfl, ok⟩ := r3
      have len : (signs z).length = z.cps.size := by unfold signs; rw [List.length_map, Array.length_toList]
      have sg : ∀ (i c : Nat), z.cps[i]? = some c → (signs z)[i]? = some (.str ⟨#[c]⟩) := fun i c e => by unfold signs; rw [List.getElem?_map, Array.getElem?_toList, e]; rfl
      refine ⟨a, us, z, rfl, sq, hc _ _ _ _ _ s' r' ⟨fun h2 H2 i q2 rh _ hi => ?_, fun h2 H2 i v H3 q2 rh _ _ y => ?_, fun h2 H2 q2 rh _ => ?_⟩ q⟩
      · rw [zpD_len, len] at hi
        have s2 := (Stp.mo r' q2).t _ _ sq
        have lu := ru.length
        exact ⟨us, us[i]'(by omega), z.cps[i]'(by omega), s2, List.getElem?_eq_getElem _, by simp⟩
      · obtain ⟨T, x, c, rfl, nT, rfl, hx, hcx⟩ := y
        have s2 := (Stp.mo r' q2).t _ _ sq
        have r2 := RepVs.mono (Stp.mo r' q2) _ ru
        obtain ⟨d, ed, rd⟩ := P2.get' r2.pair (hx us s2)
        have okc : okS ⟨#[c]⟩ := by
          have := ok.2
          refine ⟨by show 1 ≤ sizeLine; decide, ?_⟩
          unfold PyData.strOk at this ⊢
          rw [Array.all_eq_true] at this
          obtain ⟨hl, e⟩ := Array.getElem?_eq_some_iff.mp hcx
          have h2 := this i hl
          rw [e] at h2
          simpa using h2
        obtain ⟨p1, p2, p3⟩ := pair_rep (e := .str ⟨#[c]⟩) (y := .str ⟨#[c]⟩) rh nT rd ⟨rfl, okc⟩
        exact ⟨_, zpD_get _ _ _ _ _ ed (sg i c hcx), p1, p2, p3⟩
      · have s2 := (Stp.mo r' q2).t _ _ sq
        refine ⟨us, s2, ?_, ?_, ?_⟩ <;> rw [zpD_len, len, ru.length] <;> omega
    · exact q.elim⟩
end DL
namespace DL
open PySem PySem.Spec PyProof.Rows L2
/-! ### text.split(sep), text.split(); list.index -/
def okSB (x : Str) : Bool := decide (x.length ≤ sizeLine) && PyData.strOk x
theorem okSB_ok {x : Str} (h : okSB x = true) : okS x := by
  unfold okSB at h
  rw [Bool.and_eq_true] at h
  exact ⟨of_decide_eq_true h.1, h.2⟩
def newStrs (ys : List Str) (h : MH) (Q : KD) : Prop := ys.all okSB = true ∧ ∀ p, h p = none → Q (.ref p) (up h p (.lst (ys.map D.str)))
theorem newStrs_low {K : KW} {ys : List Str} {h : MH} {H : Hp} {Q : KD} {QV : VK} (hH : RepH K h H) (q : newStrs ys h Q) (hc : Cl K h H Q QV) : rNewStrs ys H QV := fun p np => by
  have rep : ∀ {l : List Str}, l.all okSB = true → RepVs K H (l.map D.str) (l.map V.str) := by
    intro l
    induction l with
    | nil => exact fun _ => .nil
    | cons x r ih =>
      intro hl
      rw [List.all_cons, Bool.and_eq_true] at hl
      exact .cons ⟨rfl, okSB_ok hl.1⟩ (ih hl.2)
  exact hc.new hH np (rep q.1) (q.2 p (hH.nofresh np))
def splitD (x y : D) (h : MH) (Q : KD) : Prop := match x, y with
  | .str a, .str b => (b.length == 0) = false ∧ a.length + 2 ≤ sizeLine ∧ newStrs (Txt.split a b) h Q
  | _, _ => False
def dSplit (to te : E1) : E1 := fun σ h Q => to σ h fun x h1 => (∃ z, x = .str z) ∧ te σ h1 fun y h2 => splitD x y h2 Q
def wordsD (x : D) (h : MH) (Q : KD) : Prop := match x with
  | .str a => a.length + 2 ≤ sizeLine ∧ newStrs (Txt.words a) h Q
  | _ => False
def indexD : M1 := fun x ds h Q => match x, ds with
  | .ref a, [y] => lstK (fun xs => pure? 60 y = true ∧ pures? 60 xs = true ∧ ∃ (j : Nat) (z : D), xs[j]? = some z ∧ eqF z y = true ∧ (∀ (m : Nat) (z' : D), m < j → xs[m]? = some z' → eqF z' y = false) ∧ Q (.int (j : Nat)) h) (h a)
  | _, _ => False
theorem pds_get : ∀ (ds : List D) (j : Nat), (pds ds)[j]? = (ds[j]?).map pd
  | [], j => by simp [pds]
  | d :: ds, 0 => by simp [pds]
  | d :: ds, j + 1 => by simp only [pds, List.getElem?_cons_succ]; exact pds_get ds j
section
variable {X : Cx}
theorem de_split {o e : Expr} {to te : E1} {apos pos : Pos} (ho : DE X o to) (he : DE X e te) (hs : starEach [e] X.env = [(false, eval e X.env)] := by rfl) (hbase : attributeBase o "split" X.env (eval o X.env) = eval o X.env := by rfl) (hline : (apos.endLine == pos.line) = true := by rfl) :
    DE X (.Call (.Attribute o "split" apos) [e] [] pos) (dSplit to te) :=
  weakE (pe_split ho he hs hbase hline) fun σV H QV ⟨σ, h, Q, hE, hH, ht, hc⟩ => by
    refine ⟨σ, h, _, hE, hH, ht, fun x h1 v H1 s1 hH1 r1 q => ?_⟩
    obtain ⟨⟨z, rfl⟩, q⟩ := q
    obtain ⟨rfl, oz⟩ := r1
    refine ⟨⟨z, rfl⟩, σ, h1, _, hE.mono (Stp.mo hH s1), hH1, q, fun y h2 u H2 s2 hH2 r2 q2 => ?_⟩
    cases y with
    | str b =>
      obtain ⟨rfl, ob⟩ := r2
      have q2 : (b.length == 0) = false ∧ z.length + 2 ≤ sizeLine ∧ newStrs (Txt.split z b) h2 Q := q2
      exact ⟨z, b, rfl, rfl, q2.1, q2.2.1, newStrs_low hH2 q2.2.2 (hc.step (s1.trans s2))⟩
    | _ => exact (show False from q2).elim
theorem de_words {o : Expr} {to : E1} {apos pos : Pos} (ho : DE X o to) (hbase : attributeBase o "split" X.env (eval o X.env) = eval o X.env := by rfl) (hline : (apos.endLine == pos.line) = true := by rfl) :
    DE X (.Call (.Attribute o "split" apos) [] [] pos) (dUn wordsD to) :=
  weakE (pe_words ho hbase hline) fun σV H QV ⟨σ, h, Q, hE, hH, ht, hc⟩ => by
    refine ⟨σ, h, _, hE, hH, ht, fun x h1 v H1 s1 hH1 r1 q => ?_⟩
    cases x with
    | str z =>
      obtain ⟨rfl, oz⟩ := r1
      have q : z.length + 2 ≤ sizeLine ∧ newStrs (Txt.words z) h1 Q := q
      exact ⟨⟨z, rfl⟩, z, rfl, rfl, q.1, newStrs_low hH1 q.2 (hc.step s1)⟩
    | _ => exact (show False from q).elim
theorem xm_index (hu : X.A.units + 65 < cLine) : MtR X "list.index" (lowM X.kw indexD) := mtR_of fun x vs H QV ⟨d, ds, h, Q, rx, rv, hH, hr, hc⟩ => by
  unfold indexD at hr
  split at hr
  · rename_i a y
    obtain ⟨xs, eh, p1, p2, j, z, hz, e1, no, q⟩ := lstK_inv hr
    cases (show x = _ from rx)
    obtain ⟨v, rfl, r1⟩ := rep1 rv
    obtain ⟨us, eH, ru⟩ := hH a _ eh
    obtain ⟨a1, b1⟩ := dp_of r1 p1
    obtain ⟨a2, b2, _⟩ := dps_of ru p2
    refine ⟨_, mt_indexD hu, a, v, pd y, pds xs, j, pd z, rfl, rfl, .lst (SqL.of eH) a2, a1, b2, b1, by rw [pds_get, hz]; rfl, e1, fun m z' hm hz' => ?_, hc.val hH (d := .int (j : Nat)) rfl q⟩
    rw [pds_get] at hz'
    obtain ⟨w, ew, rfl⟩ := Option.map_eq_some_iff.mp hz'
    exact no m w hm ew
  · exact hr.elim
end
end DL
namespace DL
open PySem PySem.Spec PyProof.Rows PySem.W PySem.Calls PySem.SeqAt
/-! sorting a row of tuples whose first one is empty -/
section
variable {prog : Program} {w : World} {A : Around} {E : Value → Shared → Prop} {s : Shared}
theorem call_tuple_lt {Q : Value → Shared → Prop} {l b : Addr} {items items2 : Array Value} {e r : Nat → Bool} (hl : s.heap.IsTuple l items) (hb : s.heap.IsTuple b items2)
    (he : ∀ j (h1 : j < items.size) (h2 : j < items2.size), EqAt A.in1 s items[j] items2[j] (e j)) (hr : ∀ j (h1 : j < items.size) (h2 : j < items2.size), e j = false → RcLt A.in1 s items[j] items2[j] (r j))
    (h : Q (.bool (firstLt e r (decide (items.size < items2.size)) (List.range (min items.size items2.size)))) s) : wpAny (model prog w) A (call (.builtin "tuple.__lt__") [.ref l, .ref b]) Q E s := by
  obtain ⟨⟨cls, dd, data, sl⟩, ho, hc, n, hd⟩ := id hl
  obtain ⟨⟨cls2, dd2, data2, sl2⟩, ho2, hc2, n2, hd2⟩ := id hb
  simp only at hc hd hc2 hd2
  subst hc hd hc2 hd2
  exact call_meets F.slot_tuple_lt ⟨_, ho, rfl⟩ F.entry_tuple_lt (F.args_tuple_lt_2 _ _) (tuple_ltAt l b items items2 n n2 dd dd2 sl sl2 e r) ⟨ho, ho2, he, hr, h⟩
theorem oneLt_tup {xs ys : List PyData} {a b : Value} {as bs : List Addr} {Q : Bool → Shared → Prop} (ra : Reads s.heap a (.tuple xs) as) (rb : Reads s.heap b (.tuple ys) bs) (h : PySem.W.alike (.tuple xs) (.tuple ys) = true)
    (hu : A.units + min (PyData.depth (.tuple xs)) (PyData.depth (.tuple ys)) < cLine) (hq : Q (dataLt (.tuple xs) (.tuple ys)) s) : wpAny (model prog w) A (oneLt' true a b) Q E s := by
  have hal : alikeAll xs ys = true := by simpa [PySem.W.alike] using h
  cases ra with
  | @tuple l o vs n _ as₁ h1 h2 h3 h4 =>
    cases rb with
    | @tuple l' o' vs' n' _ bs₁ k1 k2 k3 k4 =>
      have n1 : vs.size = xs.length := by simpa using SeqAt.ReadsAll.length _ _ _ h4
      have n2 : vs'.size = ys.length := by simpa using SeqAt.ReadsAll.length _ _ _ k4
      rw [dataLt_tuple, ← firstLt_toks xs ys hal, ← n1, ← n2] at hq
      rw [oneLt'_eq]
      simp only [if_true]
      refine wpAny_bind (wpAny_cRoomFor (SeqAt.room_here hu) ?_)
      refine wpAny_bind (wpAny_callSpecialIfBound?_slot (T := "tuple") ⟨_, h1, h2⟩ F.slot_tuple_lt (call_tuple_lt (e := pairEq xs ys) (r := fun j => dataLt (xs.getD j .none) (ys.getD j .none)) ⟨_, h1, h2, _, h3⟩ ⟨_, k1, k2, _, k3⟩ (fun j j1 j2 => ?_) (fun j j1 j2 hj => ?_) ?_))
      · have := eqAt_alikeAll xs ys A.in1 s vs.toList vs'.toList _ _ h4 k4 hal (SeqAt.room_in hu) j (by simpa using j1) (by simpa using j2)
        simpa using this
      · have := rcLt_alikeAll xs ys A.in1 s vs.toList vs'.toList _ _ h4 k4 hal (SeqAt.room_in hu) j (by simpa using j1) (by simpa using j2) hj
        simpa using this
      · exact wpAny_truthy_bool hq
/-- the first parts of a row of tuples -/
theorem firsts_any : ∀ (vs : List Value) (ds : List PyData) {Q : List (Option Value) → Shared → Prop}, EachIs (fun v d => ∃ as, Reads s.heap v d as) vs ds → (∀ d, d ∈ ds → ∃ xs, d = .tuple xs) →
    (∀ fs, fs.length = vs.length → (ds.head? = some (.tuple []) → fs.head? = some none) → Q fs s) → wpAny (model prog w) A (vs.mapM firstOfTuple') Q E s
  | [], [], _, _, _, h => by rw [List.mapM_nil]; exact wpAny_pure (h [] rfl fun e => by cases e)
  | v :: vs, d :: ds, Q, .cons ⟨as, r⟩ t, ht, h => by
    obtain ⟨xs, rfl⟩ := ht d (by simp)
    cases r with
    | @tuple a o vs1 n _ _ ho hc hd hr =>
      rw [List.mapM_cons]
      refine wpAny_bind ?_
      rw [kas_first_eq]
      refine wpAny_bind (Looks.here (show Looks (model prog w) s.heap (typeOf (.ref a)) o.cls from (Looks.ld ho).andThen .now) ?_)
      rw [hc, if_neg (by first | decide | simp)]
      refine wpAny_bind (listItems_at ho hd (wpAny_pure ?_))
      refine wpAny_bind (firsts_any vs ds t (fun d hd => ht d (by simp [hd])) fun fs hl _ => wpAny_pure (h _ (by simp [hl]) fun e => ?_))
      simp only [List.head?_cons, Option.some.injEq, PyData.tuple.injEq] at e
      subst e
      have : vs1.size = 0 := by simpa using SeqAt.ReadsAll.length _ _ _ hr
      rw [List.head?_cons]
      simp [this]
theorem kind_first0 {vs : List Value} {ds : List PyData} {Q : SortKind → Shared → Prop} (e : EachIs (fun v d => ∃ as, Reads s.heap v d as) vs (.tuple [] :: ds)) (ht : ∀ d, d ∈ ds → ∃ xs, d = .tuple xs) (h : Q oneType' s) :
    wpAny (model prog w) A (keyKind' vs.toArray) Q E s := by
  have ht' : ∀ d, d ∈ (.tuple [] :: ds : List PyData) → ∃ xs, d = .tuple xs := fun d hd => by
    rcases List.mem_cons.mp hd with rfl | hd
    · exact ⟨_, rfl⟩
    · exact ht d hd
  have hT : ∀ v ∈ vs, Looks (model prog w) s.heap (typeOf v) (.type "tuple") := fun v hv => by
    obtain ⟨d, hd, as, r⟩ := e.left v hv
    obtain ⟨xs, rfl⟩ := ht' d hd
    exact looks_reads r
  obtain ⟨v₁, rest, rfl⟩ : ∃ v₁ rest, vs = v₁ :: rest := by
    cases e with
    | cons _ _ => exact ⟨_, _, rfl⟩
  rw [keyKind'_eq, List.mapM_toArray, map_eq_pure_bind]
  refine wpAny_bind (wpAny_bind (firsts_any _ _ e ht' fun fs hl hf => wpAny_pure ?_))
  have hf := hf rfl
  cases fs with
  | nil => cases hf
  | cons f0 fr =>
    cases hf
    rw [if_neg (by simp), if_neg (by simp)]
    rw [oneTypeOnly'_eq, List.mapM_toArray, map_eq_pure_bind]
    refine wpAny_bind (wpAny_bind (wpAny_bind (kas_mapM (r := Value.type "tuple") _ (fun v hv Q' hq => (hT v hv).here hq) (wpAny_pure ?_))))
    have hall : ((List.map (fun _ => Value.type "tuple") (v₁ :: rest)).toArray.all fun x => x == Value.type "tuple") = true := by
      simp only [List.all_toArray, List.all_map, List.all_eq_true]
      intro _ _
      rfl
    have h0 : (List.map (fun _ => Value.type "tuple") (v₁ :: rest)).toArray[0]? = some (Value.type "tuple") := by simp
    rw [h0]
    simp only [hall, if_true]
    exact wpAny_pure (wpAny_pure h)
theorem sorts_first0 {vs : List Value} {ds : List PyData} (e : EachIs (fun v d => ∃ as, Reads s.heap v d as) vs (.tuple [] :: ds)) (hal : AllAlike (.tuple [] :: ds)) (ht : ∀ d, d ∈ ds → ∃ xs, d = .tuple xs) (hu : ∀ d, d ∈ (.tuple [] :: ds : List PyData) → A.units + d.depth < cLine) :
    SortsAt prog w A s (dataKind s.heap (.tuple [] :: ds)) vs := by
  have ht' : ∀ d, d ∈ (.tuple [] :: ds : List PyData) → ∃ xs, d = .tuple xs := fun d hd => by
    rcases List.mem_cons.mp hd with rfl | hd
    · exact ⟨_, rfl⟩
    · exact ht d hd
  refine ⟨fun v hv => ?_, oneType', ?_, fun h2 E Q hq => kind_first0 e ht hq⟩
  · obtain ⟨d, hd, as, r⟩ := e.left v hv
    exact ⟨_, dataKind_some hal hd r⟩
  · intro E x y a b Q ha hb hq
    obtain ⟨d, as, hd, ra, rfl⟩ := dataKind_inv ha
    obtain ⟨d', as', hd', rb, rfl⟩ := dataKind_inv hb
    rw [keyLt'_oneType]
    have hdd := hal d hd d' hd'
    have hroom : A.units + min d.depth d'.depth < cLine := Nat.lt_of_le_of_lt (Nat.add_le_add_left (Nat.min_le_left _ _) _) (hu d hd)
    obtain ⟨xs, rfl⟩ := ht' d hd
    obtain ⟨ys, rfl⟩ := ht' d' hd'
    exact oneLt_tup ra rb hdd hroom hq
end
end DL
namespace DL
open PySem PySem.Spec PyProof.Rows L2
/-! sorted(x): a list, a tuple, a dict with scalar keys; things of one kind, any number -/
def leK (x y : D) : Bool := !PySem.W.dataLt (pd y) (pd x)
def alikeB (ds : List D) : Bool := ds.all fun x => ds.all fun y => PySem.W.alike (pd x) (pd y)
def isTup1 : D → Bool
  | .tup (_ :: _) => true
  | _ => false
def notTN : D → Bool
  | .tup _ => false
  | .none => false
  | _ => true
def sortsB (ds : List D) : Bool := ds.all isTup1 || ds.all notTN
def isTupD : D → Bool
  | .tup _ => true
  | _ => false
/-- tuples, the first one empty -/
def first0 : List D → Bool
  | .tup [] :: r => r.all isTupD
  | _ => false
def sortsC (ds : List D) : Bool := sortsB ds || first0 ds
theorem sortsC_of {ds : List D} (h : sortsB ds = true) : sortsC ds = true := by unfold sortsC; rw [h]; rfl
theorem first0_of {ds : List D} (h : first0 ds = true) : ∃ r, ds = .tup [] :: r ∧ r.all isTupD = true := by
  unfold first0 at h
  split at h
  · exact ⟨_, rfl, h⟩
  · cases h
def sortK (ds : List D) (h : MH) (Q : KD) : Prop := pures? 50 ds = true ∧ alikeB ds = true ∧ sortsC ds = true ∧ ds.length ≤ sizeLine ∧ ∀ (ys : List D) (p : Addr), ys.Perm ds → ys.Pairwise (fun a b => leK a b = true) → h p = none → Q (.ref p) (up h p (.lst ys))
def sortO (h : MH) (Q : KD) : Option MO → Prop
  | some (.lst ds) => sortK ds h Q
  | some (.dic kvs) => sortK (kvs.map (·.1)) h Q
  | _ => False
def sortedD (x : D) (h : MH) (Q : KD) : Prop := match x with
  | .tup ds => sortK ds h Q
  | .rol ds => sortK ds h Q
  | .ref a => sortO h Q (h a)
  | _ => False
theorem mem_pds {x : PyData} : ∀ {ds : List D}, x ∈ pds ds → ∃ d, d ∈ ds ∧ x = pd d
  | [], h => by simp [pds] at h
  | d :: ds, h => by
    simp only [pds, List.mem_cons] at h
    rcases h with rfl | h
    · exact ⟨d, by simp, rfl⟩
    · obtain ⟨e, h1, h2⟩ := mem_pds h
      exact ⟨e, by simp [h1], h2⟩
theorem pd_mem {d : D} : ∀ {ds : List D}, d ∈ ds → pd d ∈ pds ds
  | [], h => by simp at h
  | e :: ds, h => by
    simp only [pds, List.mem_cons]
    rcases List.mem_cons.mp h with rfl | h
    · exact .inl rfl
    · exact .inr (pd_mem h)
section
variable {ds : List D}
theorem allAlike (h : alikeB ds = true) : PySem.W.AllAlike (pds ds) := by
  intro x hx y hy
  obtain ⟨d, hd, rfl⟩ := mem_pds hx
  obtain ⟨e, he, rfl⟩ := mem_pds hy
  unfold alikeB at h
  rw [List.all_eq_true] at h
  have := h d hd
  rw [List.all_eq_true] at this
  exact this e he
theorem sortable {n : Nat} (pu : pures? n ds = true) (h : sortsB ds = true) : PySem.W.Sortable (pds ds) := by
  unfold sortsB at h
  rw [Bool.or_eq_true, List.all_eq_true, List.all_eq_true] at h
  rcases h with h | h
  · left
    intro x hx
    obtain ⟨d, hd, rfl⟩ := mem_pds hx
    have := h d hd
    cases d with
    | tup xs =>
      cases xs with
      | nil => cases this
      | cons y r => exact ⟨pd y, pds r, by simp [pd, pds]⟩
    | _ => cases this
  · right
    intro x hx
    obtain ⟨d, hd, rfl⟩ := mem_pds hx
    have := h d hd
    refine ⟨?_, ?_⟩
    · cases d with
      | none => cases this
      | tup xs => cases this
      | ref _ => rw [pures_all, List.all_eq_true] at pu; have := pu _ hd; simp [pure?] at this
      | ty _ => rw [pures_all, List.all_eq_true] at pu; have := pu _ hd; simp [pure?] at this
      | _ => intro e; simp [pd] at e
    · intro xs
      cases d with
      | none => cases this
      | tup xs => cases this
      | _ => intro e; simp [pd] at e
end
theorem pures_up : ∀ {n m : Nat}, n ≤ m → ∀ ds : List D, pures? n ds = true → pures? m ds = true := by
  have one : ∀ (n m : Nat), n ≤ m → ∀ x : D, pure? n x = true → pure? m x = true := by
    intro n
    induction n with
    | zero =>
      intro m _ x h
      cases x <;> simp_all [pure?]
    | succ n ih =>
      intro m hm x h
      cases m with
      | zero => omega
      | succ m =>
        cases x with
        | tup xs =>
          simp only [pure?, pures_all, List.all_eq_true] at h ⊢
          exact fun y hy => ih m (by omega) y (h y hy)
        | rol xs =>
          simp only [pure?, pures_all, List.all_eq_true] at h ⊢
          exact fun y hy => ih m (by omega) y (h y hy)
        | _ => simp_all [pure?]
  intro n m h ds p
  rw [pures_all, List.all_eq_true] at p ⊢
  exact fun x hx => one n m h x (p x hx)
section
variable {X : Cx} {pins : List (Addr × Obj)} {σ : L2.St} {H : Hp}
theorem each_of {K : KW} {H : Hp} : ∀ {ds : List D} {vs : List V} {us : List Value}, RepVs K H ds vs → Vals vs us → PySem.W.EachIs (fun u d => ∃ v, RelV v u ∧ RepV K H d v) us ds
  | [], _, _, r, q => by
    cases (show _ = [] from r)
    cases q; exact .nil
  | d :: ds, _, _, r, q => by
    obtain ⟨v, w, rfl, r1, r2⟩ := r
    cases q with
    | cons a b => exact .cons ⟨v, a, r1⟩ (each_of r2 b)
theorem each_back {K : KW} {H : Hp} : ∀ {ds : List D} {us : List Value}, PySem.W.EachIs (fun u d => ∃ v, RelV v u ∧ RepV K H d v) us ds → ∃ vs, RepVs K H ds vs ∧ Vals vs us
  | _, _, .nil => ⟨[], rfl, .nil⟩
  | _, _, .cons ⟨v, a, b⟩ t => by
    obtain ⟨vs, h1, h2⟩ := each_back t
    exact ⟨v :: vs, .cons b h1, .cons a h2⟩
theorem each_reads {s : Shared} (I : Inv X pins σ H s) {n : Nat} : ∀ {ds : List D} {vs : List V} {us : List Value}, pures? n ds = true → RepVs X.kw H ds vs → Vals vs us → PySem.W.EachIs (fun u d => ∃ as, Reads s.heap u (pd d) as) us ds
  | [], _, _, _, r, q => by
    cases (show _ = [] from r)
    cases q; exact .nil
  | d :: ds, _, _, p, r, q => by
    obtain ⟨v, w, rfl, r1, r2⟩ := r
    have p' : pure? n d = true ∧ pures? n ds = true := by simpa [pures?] using p
    cases q with
    | cons a b => exact .cons (Dp.reads I (pd d) v _ (pd_dp n d v p'.1 r1).1 a) (each_reads I p'.2 r2 b)
theorem each_pds {R : Value → PyData → Prop} : ∀ {us : List Value} {ds : List D}, PySem.W.EachIs (fun u d => R u (pd d)) us ds → PySem.W.EachIs R us (pds ds)
  | _, _, .nil => by simp only [pds]; exact .nil
  | _, _, .cons a t => by simp only [pds]; exact .cons a (each_pds t)
theorem each_mem {R R' : Value → D → Prop} : ∀ {us : List Value} {ds : List D}, PySem.W.EachIs R us ds → (∀ u d, d ∈ ds → R u d → R' u d) → PySem.W.EachIs R' us ds
  | _, _, .nil, _ => .nil
  | _, _, .cons a t, h => .cons (h _ _ (by simp) a) (each_mem t fun u d hd => h u d (by simp [hd]))
/-- what is collected is sorted -/
theorem sort_from {h : MH} {ds : List D} {u : Value} {vs : List V} {s : Shared} {Q : KD} {QV : VK} (hu : X.A.units + 64 < cLine) (I : Inv X pins σ H s) (hH : RepH X.kw h H) (r : RepVs X.kw H ds vs) (k : sortK ds h Q) (hc : Cl X.kw h H Q QV)
    (hcol : ∀ R : List Value → Shared → Prop, (∀ (h' : Heap) (tk : Nat) (us : List Value), (∀ b o, s.heap.get? b = some o → h'.get? b = some o) → Vals vs us → R us { s with heap := h', toks := tk }) → wpAny (model X.prog X.w) X.A.in1 (collect u) R X.xe s) :
    wpAny (model X.prog X.w) X.A (call (.builtin "sorted") [u]) (EP X pins σ QV) X.xe s := by
  obtain ⟨pu, al, so, hz, k⟩ := k
  refine Calls.call_function_entry PyProof.Rows.kind_sorted PyProof.Rows.plain_sorted PyProof.Rows.entry_sorted (PyProof.Rows.args_sorted1 _) ?_
  unfold Builtin.«sorted»
  refine wpAny_bind (m := checkCount "sorted" 1 1 _) (wpAny_pure ?_)
  refine wpAny_bind (hcol _ fun h' tk us keep hv => ?_)
  have I1 : Inv X pins σ H { s with heap := h', toks := tk } := I.kept keep
  have hlen : us.length = ds.length := by rw [← hv.length, r.length]
  refine wpAny_bind (wpAny_newList ?_ (by rw [hlen]; exact hz))
  have hoL : (h'.push (seqObj "list" us.toArray 0)).get? h'.objs.size = some (seqObj "list" us.toArray 0) := Heap.get?_push_size _ rfl
  show wpAny _ _ _ _ _ { s with heap := h'.push (seqObj "list" us.toArray 0), toks := tk }
  have keep2 : ∀ b o, h'.get? b = some o → (PySem.W.sortingHeap (h'.push (seqObj "list" us.toArray 0)) h'.objs.size us).get? b = some o := fun b o e => by
    exact PySem.W.sortingHeap_old (Nat.ne_of_lt (Heap.lt_size e)) (Heap.get?_push_of_some _ e)
  have I2 : Inv X pins σ H { s with heap := PySem.W.sortingHeap (h'.push (seqObj "list" us.toArray 0)) h'.objs.size us, toks := tk } := I.kept (fun b o e => keep2 b o (keep b o e))
  have rd : PySem.W.EachIs (fun v d => ∃ as, Reads (PySem.W.sortingHeap (h'.push (seqObj "list" us.toArray 0)) h'.objs.size us) v d as) us (pds ds) := each_pds (each_reads I2 pu r hv)
  have deep : ∀ d, d ∈ pds ds → X.A.in1.in1.units + d.depth < cLine := fun d hd => by
    obtain ⟨e, he, rfl⟩ := mem_pds hd
    have hp := pu
    rw [pures_all, List.all_eq_true] at hp
    have := pd_depth 50 e (hp e he)
    simp only [Around.in1_units]
    omega
  have S : PySem.W.SortsAt X.prog X.w X.A.in1.in1 { s with heap := PySem.W.sortingHeap (h'.push (seqObj "list" us.toArray 0)) h'.objs.size us, toks := tk } (PySem.W.dataKind (PySem.W.sortingHeap (h'.push (seqObj "list" us.toArray 0)) h'.objs.size us) (pds ds)) us := by
    unfold sortsC at so
    rw [Bool.or_eq_true] at so
    rcases so with so | so
    · exact PySem.W.SortsAt.data rd (allAlike al) (sortable pu so) deep
    · obtain ⟨r0, e0, hr0⟩ := first0_of so
      have ep : pds ds = .tuple [] :: pds r0 := by rw [e0]; simp [pds, pd]
      have hal := allAlike al
      rw [ep] at rd hal deep ⊢
      refine sorts_first0 rd hal (fun d hd => ?_) deep
      obtain ⟨e, he, rfl⟩ := mem_pds hd
      rw [List.all_eq_true] at hr0
      have := hr0 e he
      cases e with
      | tup xs => exact ⟨_, by simp [pd]; rfl⟩
      | _ => cases this
  have ev := PySem.W.sortVals_each (κ := PySem.W.dataKind (PySem.W.sortingHeap (h'.push (seqObj "list" us.toArray 0)) h'.objs.size us) (pds ds)) (rev := false) (fun d : D => PySem.W.keyToks (pd d)) (each_of r hv) (ks := us) ?_
  · obtain ⟨vs', r', v'⟩ := each_back ev
    refine wpAny_bind (wpAny_holding (wpAny_call_entry PyProof.Rows.slot_list_sort ⟨_, hoL, rfl⟩ PyProof.Rows.entry_list_sort
      (PySem.W.list_sort_vals (s := { s with heap := h'.push (seqObj "list" us.toArray 0), toks := tk }) hoL S (by rw [hlen]; exact hz) ⟨_, rfl, ?_⟩) (PyProof.Rows.args_list_sort _)))
    obtain ⟨e', he'⟩ := PyProof.Rows.sortedHeap_at (vs := us) (out := (PySem.W.sortVals (PySem.W.dataKind (PySem.W.sortingHeap (h'.push (seqObj "list" us.toArray 0)) h'.objs.size us) (pds ds)) false us us).toArray) hoL
    have np : H h'.objs.size = none := I1.hok.fresh (Nat.le_refl _)
    have perm : (ds.mergeSort (PySem.W.sortLe (PySem.W.dataKind (PySem.W.sortingHeap (h'.push (seqObj "list" us.toArray 0)) h'.objs.size us) (pds ds)).toKeyOrd false fun d : D => PySem.W.keyToks (pd d))).Perm ds := List.mergeSort_perm _ _
    have srt := PySem.W.sort_pairwise (PySem.W.sortLe_total (PySem.W.dataKind (PySem.W.sortingHeap (h'.push (seqObj "list" us.toArray 0)) h'.objs.size us) (pds ds)).toKeyOrd false fun d : D => PySem.W.keyToks (pd d)) ds
    have hlen2 : vs'.length ≤ sizeLine := by rw [← r'.length, perm.length_eq]; exact hz
    refine wpAny_pure ⟨_, rfl, .ref h'.objs.size, upd H h'.objs.size (.lst vs'), I1.laid (t' := tk) (fun b u e => ?_) (Nat.le_refl _)
      (show ObjOk X.prog X.w _ _ _ (.lst vs') from ⟨hlen2, _, e', v', he'⟩), rfl, ?_⟩
    · have hb : b < h'.objs.size := Heap.lt_size e
      rw [PyProof.Rows.sortedHeap_old (Nat.ne_of_lt hb) (by rw [size_push']; exact Nat.lt_succ_of_lt hb)]
      exact Heap.get?_push_of_some _ e
    · exact hc.new hH np r' (k _ _ perm srt (hH.nofresh np))
  · exact each_mem (each_reads I2 pu r hv) fun u d hd ⟨as, q⟩ => PySem.W.dataKind_some (allAlike al) (pd_mem hd) q
theorem collect_tup {prog : Program} {w : World} {A : Around} {E : Value → Shared → Prop} {s : Shared} {l : Addr} {vs : List Value} {Q : List Value → Shared → Prop} (hl : s.heap.IsTuple l vs.toArray)
    (h : Q vs { s with heap := (s.heap.push (seqObj "list" #[] 0)).update s.heap.objs.size (Obj.mapSeq (· ++ vs.toArray)) }) (hsz : vs.length ≤ sizeLine) :
    wpAny (model prog w) A (collect (.ref l)) Q E s := by
  obtain ⟨o, ho, hc, n, hd⟩ := id hl
  unfold collect
  refine wpAny_bind (wpAny_runValue (codeAny_builtin entry_proto_collect' ?_))
  show wpAny _ _ (do again (.builtin "list.__iadd__" ⟨[← newList [], .ref l], []⟩)) _ _ s
  refine wpAny_bind (wpAny_newList (wpAny_pure ⟨Code.quiet_builtin _ (by decide +kernel), codeAny_builtin entry_list_iadd' ?_⟩))
  show wpAny _ _ (Builtin.List.listExtendWith (.ref s.heap.objs.size) (.ref l) (.ref s.heap.objs.size)) _ _ { s with heap := s.heap.push (seqObj "list" #[] 0) }
  unfold Builtin.List.listExtendWith
  have ho' : (s.heap.push (seqObj "list" #[] 0)).get? l = some o := Heap.get?_push_of_some _ ho
  refine wpAny_bind (wpAny_typeOf (T := "tuple") ⟨o, ho', hc⟩ ?_)
  have ht : (Value.type "tuple" == Value.type "tuple") = true := by rfl
  rw [if_pos (by rw [ht]; simp)]
  refine wpAny_bind (listItems_at ho' hd ?_)
  refine wpAny_bind (listItems_at (xs := #[]) (n := 0) (Heap.get?_push_size _ rfl) rfl ?_)
  rw [if_neg (by simp)]
  refine wpAny_bind (listUpdate_at (xs := #[]) (n := 0) (Heap.get?_push_size _ rfl) rfl ?_ (Nat.zero_le _) (by show (#[] ++ vs.toArray).size ≤ sizeLine + 1; simp only [Array.size_append, List.size_toArray, List.length_nil]; omega))
  refine wpAny_pure ?_
  show wpAny (model prog w) A (do
      let o ← load s.heap.objs.size
      match o.data with
      | .seq xs _ => pure xs.toList
      | _ => unsupported "internal:collect") Q E { s with heap := (s.heap.push (seqObj "list" #[] 0)).update s.heap.objs.size (Obj.mapSeq (· ++ vs.toArray)) }
  refine wpAny_bind (wpAny_load (get?_update_seq (Heap.get?_push_size _ rfl) _) ?_)
  show wpAny _ _ (pure ((#[] : Array Value) ++ vs.toArray).toList) Q E _
  rw [show ((#[] : Array Value) ++ vs.toArray).toList = vs by simp]
  exact wpAny_pure h
theorem keep_coll {h : Heap} {us : List Value} {b : Addr} {o : Obj} (e : h.get? b = some o) : ((h.push (seqObj "list" #[] 0)).update h.objs.size (Obj.mapSeq (· ++ us.toArray))).get? b = some o := by
  rw [Heap.get?_update_ne _ _ _ _ (Nat.ne_of_lt (Heap.lt_size e))]
  exact Heap.get?_push_of_some _ e
theorem keys_vals {ks : List L2.Key} {acc : List Value} (hl : acc.length = ks.length) (h : ∀ (j : Nat) (v : Value), acc[j]? = some v → ∃ k, ks[j]? = some k ∧ keyIs k v = true) : Vals (ks.map kV) acc := by
  induction ks generalizing acc with
  | nil =>
    have : acc = [] := List.eq_nil_of_length_eq_zero hl
    subst this; exact .nil
  | cons p r ih =>
    cases acc with
    | nil => simp at hl
    | cons v t =>
      refine .cons ?_ (ih (by simpa using hl) fun j u e => by simpa using h (j + 1) u (by simpa using e))
      obtain ⟨k, e1, e2⟩ := h 0 v rfl
      have e1 : p = k := by simpa using e1
      subst e1
      rcases keyIs_shape e2 with ⟨i, t, ek, ev⟩ | ⟨z, t, ek, ev⟩
      · cases ek; exact ⟨t, ev⟩
      · cases ek; exact ⟨t, ev⟩
theorem reps_keys {K : KW} {H : Hp} {kvs : Kvs} {kv : List (L2.Key × V)} (r : RepKs K H kvs kv) : RepVs K H (kvs.map (·.1)) ((kv.map (·.1)).map kV) := by
  induction r with
  | nil => exact .nil
  | cons h _ ih => exact .cons h.2.1 ih
theorem reps_keysN {K : KW} {H : Hp} {kvs : Kvs} {xs : List Ent} (r : RepNs K H kvs xs) : RepVs K H (kvs.map (·.1)) (xs.map (·.2.1)) := by
  induction r with
  | nil => exact .nil
  | cons h _ ih => exact .cons h.2.1 ih
theorem ents_vals {w : World} {xs : List Ent} {l : List DictEntry} (p : Paired (entOk w) xs l) : ∀ {acc : List Value}, acc.length = l.length → (∀ (j : Nat) (v : Value), acc[j]? = some v → ∃ e, l[j]? = some e ∧ v = e.key) → Vals (xs.map (·.2.1)) acc := by
  induction p with
  | nil =>
    intro acc hl _
    have : acc = [] := List.eq_nil_of_length_eq_zero hl
    subst this; exact .nil
  | @cons x e xs l q t ih =>
    intro acc hl h
    cases acc with
    | nil => simp at hl
    | cons v r =>
      obtain ⟨e', e1, e2⟩ := h 0 v rfl
      cases e1
      exact .cons (by rw [e2]; exact q.2.1) (ih (by simpa using hl) fun j u eu => by simpa using h (j + 1) u (by simpa using eu))
theorem xd_sorted (hu : X.A.units + 64 < cLine) (hcalm : X.calm = true) : CallR X (.builtin "sorted") (lowC X.kw (on1 sortedD)) := by
  intro pins s σ H vs us QV I r0 ⟨ds0, h, Q, rv0, hH, hr, hc⟩
  obtain ⟨d, rfl, hr⟩ := on1_inv hr
  obtain ⟨x, rfl, rx⟩ := rep1 rv0
  obtain ⟨u, eu, ru⟩ := vals1 r0
  subst eu
  have lst : ∀ {a : Addr} {vs : List V} {ds : List D}, x = .ref a → SqL X.K H a vs → RepVs X.kw H ds vs → sortK ds h Q → wpAny (model X.prog X.w) X.A (call (.builtin "sorted") [u]) (EP X pins σ QV) X.xe s := by
    rintro a vs ds rfl sq rs k
    cases ru
    obtain ⟨its, rv, tp, hz⟩ := I.list sq
    exact sort_from hu I hH rs k hc fun R q => PyProof.Rows.collect_list tp.isList (q _ _ its (fun b o e => keep_coll e) rv) (by rw [← rv.length]; exact hz)
  cases d with
  | tup ds =>
    obtain ⟨a, vs, rfl, sq, rs⟩ := rx
    cases ru
    obtain ⟨its, rv, tp, hz⟩ := I.tuple sq
    exact sort_from hu I hH rs hr hc fun R q => collect_tup tp (q _ _ its (fun b o e => keep_coll e) rv) (by rw [← rv.length]; exact hz)
  | rol ds =>
    obtain ⟨a, vs, ex, sq, rs⟩ := rx
    exact lst ex sq.sq rs hr
  | ref a =>
    have ex : x = .ref a := rx
    have hr : sortO h Q (h a) := hr
    cases q : h a with
    | none => rw [q] at hr; exact hr.elim
    | some o =>
      rw [q] at hr
      cases o with
      | lst ds =>
        obtain ⟨vs, eH, rs⟩ := hH a _ q
        exact lst ex (SqL.of eH) rs hr
      | dic kvs =>
        have hk : sortK (kvs.map (·.1)) h Q := hr
        subst ex
        cases ru
        rcases hH a _ q with ⟨kv, e0, rk⟩ | ⟨xs, rn⟩
        · obtain ⟨z, lo, vs0, rel, dd⟩ := dk_of I.hok e0
          obtain ⟨ep, hat⟩ := dd.dictAt
          have hl : vs0.length = kv.length := by
            have e := congrArg List.length rel.keys
            rw [List.length_map, List.length_map] at e
            exact e.symm
          have h16 : vs0.length ≤ sizeLine := by rw [hl]; exact z
          refine sort_from hu I hH (reps_keys rk) hk hc fun R qq => PySem.W.kdu_collect (A := X.A.in1) (PySem.W.kdl_dict (knd := mixKind X.prog X.w) (kvs := vs0) (ep := ep) lo) (I.ok.hd hcalm) hat h16 fun h' tk acc hk hacc => qq h' tk acc.toList hk ?_
          rw [rel.keys]
          refine keys_vals (by rw [Array.length_toList, hacc.1, List.length_map]) fun j v e => ?_
          obtain ⟨k, x, e1, e2⟩ := hacc.2 j v (by rw [← Array.getElem?_toList]; exact e)
          exact ⟨k, by rw [List.getElem?_map, e1]; rfl, e2⟩
        · obtain ⟨⟨o, es, ep, e1, c1, d1, p⟩, _⟩ := (show ObjOk X.prog X.w H s.heap a (dobj X.w a xs) from I.hok a _ rn.at_)
          have hn : es.size = xs.length := by rw [← Array.length_toList]; exact p.length.symm
          have hkl : kvs.length = xs.length := rn.rep.length
          have h16 : es.size ≤ sizeLine := by rw [hn, ← hkl]; exact rn.len
          refine sort_from hu I hH (reps_keysN rn.rep) hk hc fun R qq => PySem.W.kdu_collect (A := X.A.in1) (KdlSrc.rawDict (es := es) (ep := ep) rn.low) (I.ok.hd hcalm) ⟨o, e1, c1, d1⟩ h16 fun h' tk acc hk hacc => qq h' tk acc.toList hk ?_
          refine ents_vals p (by rw [Array.length_toList, hacc.1, Array.length_toList]) fun j v e => ?_
          obtain ⟨hi, ev⟩ := hacc.2 j v (by rw [← Array.getElem?_toList]; exact e)
          exact ⟨es[j], by rw [Array.getElem?_toList]; exact Array.getElem?_eq_getElem hi, ev⟩
      | ins _ _ => exact hr.elim
  | _ => exact hr.elim
end
end DL
namespace DL
open PySem PySem.Spec PyProof.Rows L2
/-! xs[::-1] -/
section
variable {prog : Program} {w : World} {A : Around} {E : Value → Shared → Prop} {s : Shared}
theorem adjust_rev (n : Nat) : Builtin.Slice.sliceAdjust none none (-1) (n : Int) = ((n : Int) - 1, -1) := by
  unfold Builtin.Slice.sliceAdjust
  simp
theorem places_rev (n : Nat) : Builtin.Slice.slicePlaces ((n : Int) - 1) (-1) (-1) = n := by
  unfold Builtin.Slice.slicePlaces
  rw [if_neg (show ¬ ((-1 : Int) > 0) by decide)]
  by_cases h : ((n : Int) - 1) > -1
  · rw [if_pos h, show (-(-1) : Int) = 1 by decide, Int.ediv_one]; omega
  · rw [if_neg h]; omega
theorem sliceApplied_rev {sl : Addr} {vl vu vk : Value} {n : Nat} {Q : Int × Int × Nat → Shared → Prop} (hs : s.heap.IsSliceOf sl vl vu vk) (pl : IsPart vl none) (pu : IsPart vu none) (pk : IsPart vk (some (-1)))
    (h : Q ((n : Int) - 1, -1, n) s) : wpAny (model prog w) A (Builtin.Slice.sliceApplied (.ref sl) (pure (n : Int))) Q E s := by
  obtain ⟨os, hos, hcs, hds⟩ := id hs
  unfold Builtin.Slice.sliceApplied Builtin.Slice.sliceFields
  refine wpAny_bind (wpAny_bind (wpAny_field hos hds (x := vl) rfl (wpAny_bind (wpAny_field hos hds (x := vu) rfl (wpAny_bind (wpAny_field hos hds (x := vk) rfl (wpAny_pure ?_)))))))
  refine wpAny_bind (HT.slicePart_ pk ?_)
  show wpAny _ _ (if ((-1 : Int) == 0) = true then _ else _) _ _ s
  rw [if_neg (by decide)]
  refine wpAny_bind (HT.slicePart_ pl (wpAny_bind (HT.slicePart_ pu (wpAny_bind (wpAny_pure ?_)))))
  show wpAny _ _ (match Builtin.Slice.sliceAdjust none none (-1) (n : Int) with | (lo, hi) => pure (lo, (-1 : Int), Builtin.Slice.slicePlaces lo hi (-1))) _ _ s
  rw [adjust_rev n]
  show wpAny _ _ (pure ((n : Int) - 1, (-1 : Int), Builtin.Slice.slicePlaces ((n : Int) - 1) (-1) (-1))) _ _ s
  rw [places_rev]
  exact wpAny_pure h
theorem fm_congr {α β : Type} {f g : α → Option β} : ∀ {l : List α}, (∀ x ∈ l, f x = g x) → l.filterMap f = l.filterMap g
  | [], _ => rfl
  | x :: l, h => by
    rw [List.filterMap_cons, List.filterMap_cons, h x (by simp), fm_congr fun y hy => h y (List.mem_cons_of_mem _ hy)]
theorem pick_rev (xs : Array Value) : ((List.range xs.size).filterMap fun (m : Nat) => xs[(((xs.size : Int) - 1) + (m : Int) * -1).toNat]?).toArray = xs.toList.reverse.toArray := by
  have e : ((List.range xs.size).filterMap fun (m : Nat) => xs[(((xs.size : Int) - 1) + (m : Int) * -1).toNat]?) = ((List.range xs.size).map fun k => xs.size - 1 - k).filterMap (xs[·]?) := by
    rw [List.filterMap_map]
    refine fm_congr fun m hm => ?_
    have := List.mem_range.mp hm
    show xs[_]? = xs[xs.size - 1 - m]?
    congr 1; omega
  rw [e, PySem.W.krv_range, List.filterMap_reverse, PySem.W.krv_all]
theorem getItem_tuple_rev {t sl : Addr} {items : Array Value} {vl vu vk : Value} {Q : Value → Shared → Prop} (ht : IsTup s.heap t items) (hs : s.heap.IsSliceOf sl vl vu vk) (pl : IsPart vl none) (pu : IsPart vu none) (pk : IsPart vk (some (-1)))
    (h : Q (.ref s.heap.objs.size) { s with heap := s.heap.push { cls := .type "tuple", data := .seq items.toList.reverse.toArray } })
    (hsz : items.size ≤ sizeLine) : wpAny (model prog w) A (getItem (.ref t) (.ref sl)) Q E s := by
  have htake : sizeOk (.seq items.toList.reverse.toArray) := by
    show items.toList.reverse.toArray.size ≤ sizeLine
    rw [List.size_toArray, List.length_reverse, Array.length_toList]
    exact hsz
  obtain ⟨os, hos, hcs, hds⟩ := id hs
  have hTs : s.TypeIs (.ref sl) "slice" := ⟨os, hos, hcs⟩
  unfold getItem
  try with_reducible refine wpAny_holding ?_
  first | refine wpAny_bind (wpAny_pure ?_) | skip
  refine wpAny_bind (wpAny_sequenceKey ht.typeIs (by decide) ?_)
  refine wpAny_bind (wpAny_callSpecial?_slot (name := Str.ofString "__getitem__") ht.typeIs PyProof.Rows.slot_tuple_getitem
    (wpAny_call_entry PyProof.Rows.slot_tuple_getitem ht.typeIs entry_tuple_getitem ?_ (args_tuple_getitem _ _)))
  show wpAny _ _ (Builtin.Tuple.tupleItemsOf (.ref t) >>= _) _ _ s
  refine wpAny_bind (tupleItemsOf_ ht ?_)
  refine wpAny_bind (wpAny_typeOf hTs ?_)
  rw [if_pos (by decide)]
  refine wpAny_bind (sliceApplied_rev hs pl pu pk ?_)
  have hno : ¬ ((((items.size : Int) - 1) == 0 && (-1 : Int) == 1 && items.size == items.size) = true) := by
    rw [show ((-1 : Int) == 1) = false by decide]; simp
  show wpAny _ _ (if (((items.size : Int) - 1) == 0 && (-1 : Int) == 1 && items.size == items.size) = true then _ else _) _ _ s
  rw [if_neg hno, pick_rev]
  first
    | exact wpAny_bind (m := Builtin.Tuple.tupleExact _) (wpAny_newObj_type (wpAny_pure ⟨_, rfl, wpAny_pure h⟩) htake)
    | exact wpAny_bind (m := Builtin.Tuple.tupleExact _) (wpAny_newObj_type (wpAny_bind (wpAny_pure (wpAny_pure ⟨_, rfl, wpAny_pure h⟩))) htake)
    | exact wpAny_bind (wpAny_bind (m := Builtin.Tuple.tupleExact _) (wpAny_newObj_type (wpAny_pure (wpAny_pure ⟨_, rfl, wpAny_pure h⟩)) htake))
    | exact wpAny_bind (wpAny_bind (m := Builtin.Tuple.tupleExact _) (wpAny_newObj_type (wpAny_pure ⟨_, rfl, wpAny_pure h⟩) htake))
end
def tRevA (K : PySem.W.Frag) (te : TE) : TE := fun σ H Q => te σ H fun x H1 => (∃ a xs, x = .ref a ∧ SqL K H1 a xs ∧ ∀ p, H1 p = none → Q (.ref p) (upd H1 p (.lst xs.reverse))) ∨ (∃ a xs, x = .ref a ∧ SqT K H1 a xs ∧ ∀ p, H1 p = none → Q (.ref p) (upd H1 p (.tup xs.reverse)))
theorem pe_revA {X : Cx} {te : TE} {e : Expr} {k : Nat} {p1 p2 p3 pos : Pos} (he : PE X e te) : PE X (.Subscript e (.Slice none none (some (.UnaryOp .USub (.Constant (.int 1) k p1) p2)) p3) pos) (tRevA X.K te) := by
  refine ⟨fun pins s σ H Q I h => ?_⟩
  refine Subscript_ (thn (he.run pins s σ H _ I h) fun v s1 ⟨x, H1, I1, r1, q1⟩ => ?_)
  have hst : PO X (some (.UnaryOp .USub (.Constant (.int 1) k p1) p2)) (tPart (tUn (rU fun i => .int (-i)) (tC (.int 1)))) := po_some (pe_un un_neg pe_int)
  refine wpAny_Slice (thn (po_none.run pins s1 σ H1 (fun o H2 => o = none ∧ H2 = H1) I1 ⟨rfl, rfl⟩) fun vl s2 ⟨l, H2, I2, pl, el, e2⟩ => ?_)
  subst el e2
  refine thn (po_none.run pins s2 σ H2 (fun o H3 => o = none ∧ H3 = H2) I2 ⟨rfl, rfl⟩) fun vu s3 ⟨u, H3, I3, pu, eu, e3⟩ => ?_
  subst eu e3
  refine thn (hst.run pins s3 σ H3 (fun o H4 => o = some (-1) ∧ H4 = H3) I3 ⟨1, rfl, -1, rfl, rfl, rfl⟩) fun vs s4 ⟨o, H4, I4, ps, eo, e4⟩ => ?_
  subst eo e4
  have I5 : Inv X pins σ H4 { s4 with heap := s4.heap.push { cls := .type "slice", data := .fields #[vl, vu, vs] } } := I4.kept (t' := s4.toks) fun b ob q => Heap.get?_push_of_some _ q
  rcases q1 with ⟨a, xs, ex, hx, q⟩ | ⟨a, xs, ex, hx, q⟩
  · subst ex
    cases r1
    obtain ⟨its, r, ht, hz⟩ := I5.list hx
    have hlen := r.length
    show wpAny (model X.prog X.w) X.A (subscriptTail e (.Slice none none (some (.UnaryOp .USub (.Constant (.int 1) k p1) p2)) p3) (.ref a) (.ref s4.heap.objs.size)) (EP X pins σ Q) X.xe { s4 with heap := s4.heap.push { cls := .type "slice", data := .fields #[vl, vu, vs] } }
    refine tail_any (ops := [.ref a, .ref s4.heap.objs.size]) ht.isList.typeIs (PySem.slot_list_getitem.lookup) ?_ (by with_unfolding_all rfl)
    refine wpAny_getItem_list_slice ht.isList (Heap.IsSliceOf.new _ vl vu vs) pl pu ps (by decide) ?_ (by rw [List.size_toArray]; omega)
    rw [PySem.W.krv_pick]
    refine ⟨.ref _, _, I5.laid (t' := s4.toks) (o := .lst xs.reverse) (fun b ob q => Heap.get?_push_of_some _ q) (Nat.le_refl _) ?_, rfl, q _ (I5.hok.fresh (Nat.le_refl _))⟩
    exact ⟨by rw [List.length_reverse]; exact hz, _, 0, r.reverse, Heap.get?_push_size _ rfl⟩
  · subst ex
    cases r1
    obtain ⟨its, r, ht, hz⟩ := I5.tuple hx
    have hlen := r.length
    show wpAny (model X.prog X.w) X.A (subscriptTail e (.Slice none none (some (.UnaryOp .USub (.Constant (.int 1) k p1) p2)) p3) (.ref a) (.ref s4.heap.objs.size)) (EP X pins σ Q) X.xe { s4 with heap := s4.heap.push { cls := .type "slice", data := .fields #[vl, vu, vs] } }
    refine tail_any (ops := [.ref a, .ref s4.heap.objs.size]) ht.typeIs (PyProof.Rows.slot_tuple_getitem.lookup) ?_ (by with_unfolding_all rfl)
    refine getItem_tuple_rev ht (Heap.IsSliceOf.new _ vl vu vs) pl pu ps ?_ (by rw [List.size_toArray]; omega)
    refine ⟨.ref _, _, I5.laid (t' := s4.toks) (o := .tup xs.reverse) (fun b ob q => Heap.get?_push_of_some _ q) (Nat.le_refl _) ?_, rfl, q _ (I5.hok.fresh (Nat.le_refl _))⟩
    exact ⟨by rw [List.length_reverse]; exact hz, _, r.reverse, IsTup.new _ _⟩
def revD (x : D) (h : MH) (Q : KD) : Prop := match x with
  | .ref a => lstK (fun xs => ∀ p, h p = none → Q (.ref p) (up h p (.lst xs.reverse))) (h a)
  | .rol xs => ∀ p, h p = none → Q (.ref p) (up h p (.lst xs.reverse))
  | .tup xs => Q (.tup xs.reverse) h
  | _ => False
theorem de_revL {X : Cx} {e : Expr} {te : E1} {k : Nat} {p1 p2 p3 pos : Pos} (he : DE X e te) : DE X (.Subscript e (.Slice none none (some (.UnaryOp .USub (.Constant (.int 1) k p1) p2)) p3) pos) (dUn revD te) :=
  weakE (pe_revA he) fun σV H QV ⟨σ, h, Q, hE, hH, ht, hc⟩ => ⟨σ, h, _, hE, hH, ht, fun d h' v H' s' r' rv q => by
    cases d with
    | rol xs =>
      obtain ⟨a, vs, rfl, s, r⟩ := rv
      exact .inl ⟨a, vs, rfl, s.sq, fun p np => (hc.step s').new r' np (.of (P2.reverse r.pair)) (q p (r'.nofresh np))⟩
    | ref a =>
      cases (show v = _ from rv)
      obtain ⟨xs, e, q⟩ := lstK_inv q
      obtain ⟨vs, eH, r⟩ := r' a _ e
      exact .inl ⟨a, vs, rfl, SqL.of eH, fun p np => (hc.step s').new r' np (.of (P2.reverse r.pair)) (q p (r'.nofresh np))⟩
    | tup xs =>
      obtain ⟨a, vs, rfl, s, r⟩ := rv
      exact .inr ⟨a, vs, rfl, s, fun p np => (hc.step s').tup r' np (.of (P2.reverse r.pair)) q⟩
    | _ => exact q.elim⟩
/-! how long a repr is -/
def sh (c : Nat) (d : D) : Prop := (pd d).showable = true ∧ (pd d).shown.length ≤ c
theorem sh_none : sh 4 .none := ⟨by simp [pd, PyData.showable], by simp only [pd, PyData.shown]; decide⟩
theorem sh_bool (b : Bool) : sh 5 (.bool b) := ⟨by simp [pd, PyData.showable], by simp only [pd, PyData.shown]; cases b <;> decide⟩
theorem sh_int {i : Int} (h : i.natAbs < 2 ^ 64) : sh 65 (.int i) := by
  have l : i.natAbs.log2 < 64 := by
    by_cases z : i.natAbs = 0
    · rw [z]; decide
    · exact (Nat.log2_lt z).mpr h
  refine ⟨by simp only [pd, PyData.showable]; exact decide_eq_true (by omega), ?_⟩
  simp only [pd, PyData.shown]
  rw [PySem.ofString_length]
  exact int_text_length_le (by decide) l
theorem sh_str {x : Str} {n : Nat} (o : PyData.strOk x = true) (h : x.length ≤ n) : sh (10 * n + 2) (.str x) := by
  refine ⟨by simp [pd, PyData.showable], ?_⟩
  simp only [pd, PyData.shown]
  refine Nat.le_trans (PySem.StrLaws.reprText_len x fun c hc => Nat.lt_trans (okC_iff.mp o c hc) (by decide)) (by omega)
theorem piled_le {c : Nat} : ∀ ts : List Str, (∀ t ∈ ts, t.length ≤ c) → piled ts ≤ ts.length * (c + 2)
  | [], _ => by simp [piled_nil]
  | t :: r, h => by
    have := piled_le r fun u hu => h u (by simp [hu])
    have := h t (by simp)
    rw [piled_cons, List.length_cons, Nat.succ_mul]; omega
theorem shAll_of {c : Nat} : ∀ {ds : List D}, (∀ d ∈ ds, sh c d) → PyData.showableAll (pds ds) = true ∧ (PyData.shownAll (pds ds)).length = ds.length ∧ ∀ t ∈ PyData.shownAll (pds ds), t.length ≤ c
  | [], _ => by simp [pds, PyData.showableAll, PyData.shownAll]
  | d :: ds, h => by
    obtain ⟨a, b, e⟩ := shAll_of (ds := ds) fun x hx => h x (by simp [hx])
    obtain ⟨f, g⟩ := h d (by simp)
    refine ⟨by simp only [pds, PyData.showableAll, f, a]; rfl, by simp only [pds, PyData.shownAll, List.length_cons, b], fun t ht => ?_⟩
    simp only [pds, PyData.shownAll, List.mem_cons] at ht
    rcases ht with rfl | ht
    · exact g
    · exact e t ht
theorem str_app_len (a b : Str) : (a ++ b).length = a.length + b.length := by show (a.cps ++ b.cps).size = _; rw [Array.size_append]; rfl
theorem sh_tup {c n : Nat} {ds : List D} (h : ∀ d ∈ ds, sh c d) (hn : ds.length ≤ n) : sh (n * (c + 2) + 3) (.tup ds) := by
  obtain ⟨a, b, e⟩ := shAll_of h
  refine ⟨by simp only [pd, PyData.showable]; exact a, ?_⟩
  simp only [pd, PyData.shown]
  unfold tupleText
  have hj : (Str.join ", " (PyData.shownAll (pds ds))).length ≤ n * (c + 2) := by
    by_cases z : PyData.shownAll (pds ds) = []
    · rw [z]; exact Nat.zero_le _
    · have h1 := join_length_add _ z
      have h2 := piled_le _ e
      rw [b] at h2
      have h3 : ds.length * (c + 2) ≤ n * (c + 2) := Nat.mul_le_mul_right _ hn
      omega
  rw [str_app_len, str_app_len]
  have h1 : (("(" : String) : Str).length = 1 := by decide
  have h2 : (Str.ofString (if ((PyData.shownAll (pds ds)).length == 1) = true then ",)" else ")")).length ≤ 2 := by split <;> decide
  have h1' : Str.length ("(" : String) = 1 := h1
  have h2' : Str.length (if ((PyData.shownAll (pds ds)).length == 1) = true then ",)" else ")" : String) ≤ 2 := h2
  omega
theorem sh_up {c c' : Nat} {d : D} (h : sh c d) (l : c ≤ c') : sh c' d := ⟨h.1, Nat.le_trans h.2 l⟩
theorem repr_go {c : Nat} {x : D} {h : MH} {Q : KD} (p : pure? 60 x = true) (s : sh c x) (hc : c ≤ sizeLine) (q : Q (.str (pd x).shown) h) : reprD x h Q := ⟨p, s.1, Nat.le_trans s.2 hc, q⟩
end DL
namespace DL
open PySem PySem.Spec PyProof.Rows L2
/-! ### evaluation by simp -/
abbrev D1 := DL.D
theorem atI_z {α : Type} (x : α) (r : List α) : atI (x :: r) 0 = some x := atI_nat (j := 0) rfl
theorem atI_1 {α : Type} (x y : α) (r : List α) : atI (x :: y :: r) 1 = some y := atI_nat (j := 1) rfl
theorem atI_2 {α : Type} (x y z : α) (r : List α) : atI (x :: y :: z :: r) 2 = some z := atI_nat (j := 2) rfl
theorem atI_3 {α : Type} (x y z u : α) (r : List α) : atI (x :: y :: z :: u :: r) 3 = some u := atI_nat (j := 3) rfl
theorem atI_4 {α : Type} (x y z u v : α) (r : List α) : atI (x :: y :: z :: u :: v :: r) 4 = some v := atI_nat (j := 4) rfl
theorem ixN_of {n : Nat} {i : Int} {k : Nat} (e : i = (k : Int)) (h : k < n) : ixN n i = some k := by
  subst e
  unfold ixN
  rw [if_pos (by omega), if_pos (by omega)]; rfl
theorem ixN_last {n : Nat} (h : 0 < n) : ixN n (-1) = some (n - 1) := by
  unfold ixN
  rw [if_neg (by omega), if_pos (by omega)]
  congr 1; omega
theorem atI_of {α : Type} {xs : List α} {i : Int} {k : Nat} {x : α} (e : i = (k : Int)) (h : xs[k]? = some x) : atI xs i = some x := by subst e; exact atI_nat h
theorem atI_neg {α : Type} {xs : List α} {x : α} (h : xs.getLast? = some x) : atI xs (-1) = some x := by
  unfold atI
  cases xs with
  | nil => cases h
  | cons y r =>
    rw [ixN_last (by rw [List.length_cons]; omega)]
    rw [List.getLast?_eq_getElem?] at h
    exact h
theorem lh_of {Q : KD} {d : D} {h : MH} (q : Q d h) : Lh Q d h := ⟨h, le.refl, q⟩
theorem up_com {h : MH} {a b : Addr} {x y : MO} (n : a ≠ b) : up (up h a x) b y = up (up h b y) a x := by
  funext c; unfold up; by_cases p : c = a <;> by_cases q : c = b <;> simp_all
/-- equality of data -/
theorem eqv_int (i j : Int) : PyData.eqv (.int i) (.int j) = decide (i = j) := by simp [PyData.eqv, Bool.beq_eq_decide_eq]
theorem eqv_str (i j : Str) : PyData.eqv (.str i) (.str j) = decide (i = j) := by
  simp only [PyData.eqv]
  by_cases e : i = j
  · subst e; simp
  · rw [decide_eq_false e]; exact beq_eq_false_iff_ne.mpr e
section
variable {σ : Sl} {h : MH} {Q : KD} {D : Nd}
/-! every step by its form; nothing is opened that is not at hand -/
theorem e_seq {t u : S1} : dSeq t u D σ h = t { D with nx := u D } σ h := rfl
theorem e_next : dNext D σ h = D.nx σ h := rfl
theorem e_brk : dBrk D σ h = D.bk σ h := rfl
theorem e_cnt : dCnt D σ h = D.ct σ h := rfl
theorem e_drop {t : E1} : dDrop t D σ h = t σ h fun _ h1 => D.nx σ h1 := rfl
theorem e_ret {t : E1} : dRet t D σ h = t σ h D.rt := rfl
theorem e_retN : dRetN D σ h = D.rt .none h := rfl
theorem e_ifS {c : T1} {t u : S1} : dIfS c t u D σ h = c σ h fun b h1 => if b = true then t D σ h1 else u D σ h1 := rfl
theorem e_asg {t : E1} {g : G1} : dAsg t g D σ h = t σ h fun x h1 => g x σ h1 D.nx := rfl
theorem e_gN {i : Nat} {d : D1} {n : Sl → MH → Prop} : gN i d σ h n = n (put σ i (some d)) h := rfl
theorem e_gSb {to ti : E1} {t : Set1} {d : D1} {n : Sl → MH → Prop} : gSb to ti t d σ h n = to σ h fun o h1 => ti σ h1 fun i h2 => t o i d h2 fun h3 => n σ h3 := rfl
theorem e_gTp {k : Nat} {gs : Gs1} {ds : List D1} {n : Sl → MH → Prop} : gTp k gs (.tup ds) σ h n = (ds.length = k ∧ gs ds σ h n) := rfl
theorem e_gCn {g : G1} {gs : Gs1} {d : D1} {r : List D1} {n : Sl → MH → Prop} : gCn g gs (d :: r) σ h n = g d σ h fun σ' h' => gs r σ' h' n := rfl
theorem e_gNl {n : Sl → MH → Prop} : gNl [] σ h n = n σ h := rfl
def varK (o : Option D1) (h : MH) (Q : KD) : Prop := match o with | some d => Q d h | none => False
theorem e_var {i : Nat} : dVar i σ h Q = varK (nth σ i) h Q := rfl
theorem e_varK {d : D1} : varK (some d) h Q = Q d h := rfl
theorem e_nth0 {x : Option D1} {r : Sl} : nth (x :: r) 0 = x := rfl
theorem e_nthS {x : Option D1} {r : Sl} {n : Nat} : nth (x :: r) (n + 1) = nth r n := rfl
theorem e_put0 {x d : Option D1} {r : Sl} : put (x :: r) 0 d = d :: r := rfl
theorem e_putS {x d : Option D1} {r : Sl} {n : Nat} : put (x :: r) (n + 1) d = x :: put r n d := rfl
theorem e_c {d : D1} : dC d σ h Q = Q d h := rfl
theorem e_op {r : R1} {ta tb : E1} : dOp r ta tb σ h Q = ta σ h fun x h1 => tb σ h1 fun y h2 => r x y h2 Q := rfl
theorem e_un {r : D1 → MH → KD → Prop} {t : E1} : dUn r t σ h Q = t σ h fun x h1 => r x h1 Q := rfl
theorem e_call {r : C1} {t : A1} : dCall r t σ h Q = t σ h fun ds h1 => r ds h1 Q := rfl
theorem e_nil {QA : List D1 → MH → Prop} : dNil σ h QA = QA [] h := rfl
theorem e_cons {t : E1} {r : A1} {QA : List D1 → MH → Prop} : dCons t r σ h QA = t σ h fun x h1 => r σ h1 fun xs h2 => QA (x :: xs) h2 := rfl
theorem e_tup {t : A1} : dTup t σ h Q = t σ h fun ds h1 => ds.length ≤ sizeLine ∧ Q (.tup ds) h1 := rfl
theorem e_lst {t : A1} : dLst t σ h Q = t σ h fun ds h1 => ds.length ≤ sizeLine ∧ ∀ p, h1 p = none → Q (.ref p) (up h1 p (.lst ds)) := rfl
theorem e_test {t : E1} {QB : Bool → MH → Prop} : dTest t σ h QB = t σ h (asB QB) := rfl
theorem e_asB {k : Bool} {QB : Bool → MH → Prop} : asB QB (.bool k) h = QB k h := rfl
theorem e_tru {t : E1} {QB : Bool → MH → Prop} : dTru t σ h QB = t σ h fun x h1 => truD x h1 QB := rfl
theorem e_andT {t u : T1} {QB : Bool → MH → Prop} : dAndT t u σ h QB = t σ h fun c h1 => if c = true then u σ h1 QB else QB false h1 := rfl
theorem e_orT {t u : T1} {QB : Bool → MH → Prop} : dOrT t u σ h QB = t σ h fun c h1 => if c = true then QB true h1 else u σ h1 QB := rfl
theorem e_notT {t : T1} {QB : Bool → MH → Prop} : dNotT t σ h QB = t σ h fun c h1 => QB (!c) h1 := rfl
theorem e_andV {t u : E1} : dAndV t u σ h Q = t σ h (asB fun c h1 => if c = true then u σ h1 Q else Q (.bool false) h1) := rfl
theorem e_orV {t u : E1} : dOrV t u σ h Q = t σ h (asB fun c h1 => if c = true then Q (.bool true) h1 else u σ h1 Q) := rfl
theorem e_notV {t : E1} : dNotV t σ h Q = t σ h (asB fun c h1 => Q (.bool (!c)) h1) := rfl
theorem e_if {t : T1} {ta tb : E1} : dIf t ta tb σ h Q = t σ h fun c h1 => if c = true then ta σ h1 Q else tb σ h1 Q := rfl
theorem e_aug {i : Nat} {t : E1} {r : R1} : dAug i t r D σ h = varK (nth σ i) h fun x h0 => t σ h0 fun y h1 => r x y h1 fun z h2 => D.nx (put σ i (some z)) h2 := by
  unfold dAug varK; cases nth σ i <;> rfl
theorem e_augS {to ti te : E1} {r : R1} : dAugS to ti te r D σ h = to σ h fun o h1 => ti σ h1 fun i h2 => getD1 o i h2 fun x h3 => te σ h3 fun y h4 => r x y h4 fun z h5 => setD o i z h5 fun h6 => D.nx σ h6 := rfl
theorem e_sl {t : E1} {tl tu : O1} : dSl t tl tu σ h Q = t σ h fun x h1 => tl σ h1 fun lo h2 => tu σ h2 fun hi h3 => slD x lo hi h3 Q := rfl
def partK (x : D1) (h : MH) (QO : Option Int → MH → Prop) : Prop := match x with | .int i => QO (some i) h | _ => False
theorem e_part {t : E1} {QO : Option Int → MH → Prop} : dPart t σ h QO = t σ h fun x h1 => partK x h1 QO := rfl
theorem e_partK {i : Int} {QO : Option Int → MH → Prop} : partK (.int i) h QO = QO (some i) h := rfl
theorem e_noPart {QO : Option Int → MH → Prop} : dNoPart σ h QO = QO none h := rfl
theorem e_bm0 {ok : D1 → MH → Prop} {r : M1} {to : E1} : dBM0 ok r to σ h Q = to σ h fun x h1 => ok x h1 ∧ r x [] h1 Q := rfl
theorem e_bm {ok : D1 → MH → Prop} {r : M1} {to : E1} {t : A1} : dBM ok r to t σ h Q = to σ h fun x h1 => ok x h1 ∧ t σ h1 fun ds h2 => r x ds h2 Q := rfl
theorem e_join {to te : E1} : dJoin to te σ h Q = to σ h fun x h1 => (∃ z, x = .str z) ∧ te σ h1 fun y h2 => joinD x y h2 Q := rfl
theorem e_yes {QB : Bool → MH → Prop} : dYes σ h QB = QB true h := rfl
theorem e_wipe0 : wipeD σ [] = σ := rfl
theorem e_wipeS {v : Nat} {vs : List Nat} : wipeD σ (v :: vs) = put (wipeD σ vs) v none := rfl
/-- a comprehension behind its source -/
def lcT (xs : List D1) (stab : MH → Prop) (g : G1) (tt : T1) (te : E1) (vs : List Nat) (σ : Sl) (Q : KD) (h1 : MH) : Prop := xs.length ≤ sizeLine ∧ ∃ I : Nat → List D1 → MH → Prop, (∃ h0, le h0 h1 ∧ I 0 [] h0) ∧ (∀ i a h, I i a h → stab h) ∧
  (∀ i x a h, xs[i]? = some x → I i a h → g x (wipeD σ vs) h fun σ2 h2 => tt σ2 h2 fun b h3 => if b = true then te σ2 h3 fun y h4 => ∃ h5, le h5 h4 ∧ I (i + 1) (a ++ [y]) h5 else ∃ h5, le h5 h3 ∧ I (i + 1) a h5) ∧
  ∀ a h, I xs.length a h → ∀ p, h p = none → Q (.ref p) (up h p (.lst a))
theorem e_lc {it : I1} {g : G1} {tt : T1} {te : E1} {vs : List Nat} : dLc it g tt te vs σ h Q = it σ h fun xs stab h1 => lcT xs stab g tt te vs σ Q h1 := rfl
/-- a for behind its source -/
def forT (xs : List D1) (stab : MH → Prop) (g : G1) (tb : S1) (D : Nd) (σ : Sl) (h1 : MH) : Prop := ∃ I : Nat → Sl → MH → Prop, Lw (I 0) σ h1 ∧ (∀ i σ h, I i σ h → stab h) ∧
  (∀ i x σ h, xs[i]? = some x → I i σ h → g x σ h fun σ2 h2 => tb { D with nx := Lw (I (i + 1)), ct := Lw (I (i + 1)), bk := D.nx } σ2 h2) ∧ ∀ σ h, I xs.length σ h → D.nx σ h
theorem e_for {it : I1} {g : G1} {tb : S1} : dFor it g tb D σ h = it σ h fun xs stab h1 => forT xs stab g tb D σ h1 := rfl
/-- the value is f of the item, nothing is changed -/
theorem lcT_map {xs : List D1} {stab : MH → Prop} {g : G1} {te : E1} {vs : List Nat} (f : D1 → D1) (hz : xs.length ≤ sizeLine) (hs : stab h)
    (he : ∀ x ∈ xs, ∀ Q' : KD, Q' (f x) h → g x (wipeD σ vs) h fun σ2 h2 => te σ2 h2 Q') (fin : ∀ p, h p = none → Q (.ref p) (up h p (.lst (xs.map f)))) : lcT xs stab g dYes te vs σ Q h := by
  refine ⟨hz, fun i a hh => hh = h ∧ a = (xs.take i).map f, ⟨h, le.refl, rfl, rfl⟩, fun i a hh e => by rw [e.1]; exact hs, ?_, ?_⟩
  · rintro i x a hh hx ⟨rfl, rfl⟩
    obtain ⟨hi, ex⟩ := List.getElem?_eq_some_iff.mp hx
    refine he x (List.mem_of_getElem? hx) (fun y h4 => ∃ h5, le h5 h4 ∧ h5 = hh ∧ (xs.take i).map f ++ [y] = (xs.take (i + 1)).map f) ⟨hh, le.refl, rfl, ?_⟩
    rw [List.take_succ_eq_append_getElem hi, List.map_append, ex]; rfl
  · rintro a hh ⟨rfl, rfl⟩ p np
    rw [List.take_length]
    exact fin p np
/-! values -/
theorem v_add {i j : Int} : addD (.int i) (.int j) h Q = Q (.int (i + j)) h := rfl
theorem v_addS {a b : Str} : addD (.str a) (.str b) h Q = (a.length + b.length ≤ sizeLine ∧ Q (.str (a ++ b)) h) := rfl
theorem v_addT {a b : List D1} : addD (.tup a) (.tup b) h Q = (a.length + b.length ≤ sizeLine ∧ Q (.tup (a ++ b)) h) := rfl
theorem v_iadd {i j : Int} : iaddD (.int i) (.int j) h Q = Q (.int (i + j)) h := rfl
theorem v_sub {i j : Int} : subD (.int i) (.int j) h Q = Q (.int (i - j)) h := rfl
theorem v_mul {i j : Int} : mulD (.int i) (.int j) h Q = (mulOk i j ∧ Q (.int (i * j)) h) := rfl
theorem v_fdiv {i j : Int} : fdivD (.int i) (.int j) h Q = (divOk j ∧ Q (.int (i / j)) h) := rfl
theorem v_mod {i j : Int} : modD (.int i) (.int j) h Q = (0 < j ∧ Q (.int (i % j)) h) := rfl
theorem v_pow {i j : Int} : powD (.int i) (.int j) h Q = (CPow i j ∧ Q (.int (i ^ j.toNat)) h) := rfl
theorem v_shl {i j : Int} : shlD (.int i) (.int j) h Q = (CPow i j ∧ Q (.int (i * 2 ^ j.toNat)) h) := rfl
theorem v_shr {i j : Int} : shrD (.int i) (.int j) h Q = (0 ≤ j ∧ Q (.int (i / 2 ^ j.toNat)) h) := rfl
theorem v_neg {i : Int} : negD (.int i) h Q = Q (.int (-i)) h := rfl
theorem v_lt {i j : Int} : ltD (.int i) (.int j) h Q = Q (.bool (decide (i < j))) h := rfl
theorem v_le {i j : Int} : leD (.int i) (.int j) h Q = Q (.bool (decide (i ≤ j))) h := rfl
theorem v_gt {i j : Int} : gtD (.int i) (.int j) h Q = Q (.bool (decide (j < i))) h := rfl
theorem v_ge {i j : Int} : geD (.int i) (.int j) h Q = Q (.bool (decide (j ≤ i))) h := rfl
theorem v_eqI {i j : Int} : eqD (.int i) (.int j) h Q = Q (.bool (decide (i = j))) h := by show Q (.bool (PyData.eqv (.int i) (.int j))) h = _; rw [eqv_int]
theorem v_neI {i j : Int} : neD (.int i) (.int j) h Q = Q (.bool (!decide (i = j))) h := by show Q (.bool (!PyData.eqv (.int i) (.int j))) h = _; rw [eqv_int]
theorem v_eqS {i j : Str} : eqD (.str i) (.str j) h Q = Q (.bool (decide (i = j))) h := by show Q (.bool (PyData.eqv (.str i) (.str j))) h = _; rw [eqv_str]
theorem v_neS {i j : Str} : neD (.str i) (.str j) h Q = Q (.bool (!decide (i = j))) h := by show Q (.bool (!PyData.eqv (.str i) (.str j))) h = _; rw [eqv_str]
theorem v_inS {a z : Str} : inD (.str a) (.str z) h Q = Q (.bool (inS a z)) h := rfl
theorem v_ninS {a z : Str} : ninD (.str a) (.str z) h Q = Q (.bool (!inS a z)) h := rfl
theorem v_inT {x : D1} {ds : List D1} : inD x (.tup ds) h Q = inSeq x (fun b => Q (.bool b) h) ds := rfl
theorem v_ninT {x : D1} {ds : List D1} : ninD x (.tup ds) h Q = inSeq x (fun b => Q (.bool (!b)) h) ds := rfl
theorem v_inRol {x : D1} {ds : List D1} : inD x (.rol ds) h Q = inSeq x (fun b => Q (.bool b) h) ds := rfl
theorem v_ninRol {x : D1} {ds : List D1} : ninD x (.rol ds) h Q = inSeq x (fun b => Q (.bool (!b)) h) ds := rfl
theorem v_inR {x : D1} {a : Addr} : inD x (.ref a) h Q = inO x (fun b => Q (.bool b) h) (h a) := rfl
theorem v_ninR {x : D1} {a : Addr} : ninD x (.ref a) h Q = inO x (fun b => Q (.bool (!b)) h) (h a) := rfl
theorem v_inO {x : D1} {ds : List D1} {k : Bool → Prop} : inO x k (some (.lst ds)) = inSeq x k ds := rfl
theorem v_inOd {x : D1} {kvs : Kvs} {k : Bool → Prop} : inO x k (some (.dic kvs)) = inDic kvs x k := rfl
theorem v_inSeq {x : D1} {ds : List D1} {k : Bool → Prop} : inSeq x k ds = (pure? 60 x = true ∧ pures? 60 ds = true ∧ k (ds.any fun z => eqF z x)) := rfl
theorem v_inDic {x : D1} {kvs : Kvs} {k : Bool → Prop} : inDic kvs x k = (fit kvs x = true ∧ k (dget kvs x).isSome) := rfl
theorem v_seqO {ds : List D1} : seqO (some (.lst ds)) = some ds := rfl
theorem v_seqR {a : Addr} : seqOf h (.ref a) = seqO (h a) := rfl
theorem v_seqT {ds : List D1} : seqOf h (.tup ds) = some ds := rfl
theorem v_seqL {ds : List D1} : seqOf h (.rol ds) = some ds := rfl
def atK (o : Option D1) (h : MH) (Q : KD) : Prop := match o with | some d => Q d h | none => False
theorem v_ixR {a : Addr} {y : D1} : ixD (.ref a) y h Q = ixO y h Q (h a) := rfl
theorem v_ixT {ds : List D1} {y : D1} : ixD (.tup ds) y h Q = ixSeq ds y h Q := rfl
theorem v_ixL {ds : List D1} {y : D1} : ixD (.rol ds) y h Q = ixSeq ds y h Q := rfl
theorem v_ixS {z : Str} {y : D1} : ixD (.str z) y h Q = ixStr z y h Q := rfl
theorem v_ixO {ds : List D1} {y : D1} : ixO y h Q (some (.lst ds)) = ixSeq ds y h Q := rfl
theorem v_ixOd {kvs : Kvs} {y : D1} : ixO y h Q (some (.dic kvs)) = ixDic kvs y h Q := rfl
theorem v_ixSeq {ds : List D1} {i : Int} : ixSeq ds (.int i) h Q = atK (atI ds i) h Q := rfl
theorem v_ixDic {kvs : Kvs} {y : D1} : ixDic kvs y h Q = (fit kvs y = true ∧ dgetK h Q (dget kvs y)) := rfl
theorem v_dgetK {d : D1} : dgetK h Q (some d) = Q d h := rfl
theorem v_atK {d : D1} : atK (some d) h Q = Q d h := rfl
def atSK (o : Option Nat) (h : MH) (Q : KD) : Prop := match o with | some c => Q (.str ⟨#[c]⟩) h | none => False
theorem v_ixStr {z : Str} {i : Int} : ixStr z (.int i) h Q = atSK (atI z.cps.toList i) h Q := rfl
theorem v_atSK {c : Nat} : atSK (some c) h Q = Q (.str ⟨#[c]⟩) h := rfl
def getK (i : Int) (o : Option D1) (h : MH) (Q : KD) : Prop := match o with | some d => 0 ≤ i ∧ Q d h | none => False
theorem v_get {a : Addr} {y : D1} : getD1 (.ref a) y h Q = getO y h Q (h a) := rfl
theorem v_getO {xs : List D1} {y : D1} : getO y h Q (some (.lst xs)) = getL y h Q xs := rfl
theorem v_getOd {kvs : Kvs} {y : D1} : getO y h Q (some (.dic kvs)) = ixDic kvs y h Q := rfl
theorem v_getL {xs : List D1} {i : Int} : getL (.int i) h Q xs = getK i (atI xs i) h Q := rfl
theorem v_getK {i : Int} {d : D1} : getK i (some d) h Q = (0 ≤ i ∧ Q d h) := rfl
def setK (p : Addr) (d : D1) (xs : List D1) (o : Option Nat) (h : MH) (n : MH → Prop) : Prop := match o with | some j => n (up h p (.lst (xs.set j d))) | none => False
theorem v_set {a : Addr} {i d : D1} {n : MH → Prop} : setD (.ref a) i d h n = setO a i d h n (h a) := rfl
theorem v_setO {a : Addr} {i d : D1} {xs : List D1} {n : MH → Prop} : setO a i d h n (some (.lst xs)) = setL a i d h n xs := rfl
theorem v_setOd {a : Addr} {i d : D1} {kvs : Kvs} {n : MH → Prop} : setO a i d h n (some (.dic kvs)) = setDic a i d h n kvs := rfl
theorem v_setL {a : Addr} {i : Int} {d : D1} {xs : List D1} {n : MH → Prop} : setL a (.int i) d h n xs = setK a d xs (ixN xs.length i) h n := rfl
theorem v_setDic {a : Addr} {i d : D1} {kvs : Kvs} {n : MH → Prop} : setDic a i d h n kvs = (fit kvs i = true ∧ kvs.length < sizeLine ∧ n (up h a (.dic (dset kvs i d)))) := rfl
theorem v_setK {a : Addr} {j : Nat} {d : D1} {xs : List D1} {n : MH → Prop} : setK a d xs (some j) h n = n (up h a (.lst (xs.set j d))) := rfl
theorem v_on1 {r : D1 → MH → KD → Prop} {d : D1} : on1 r [d] h Q = r d h Q := rfl
theorem v_on2 {r : R1} {d e : D1} : on2 r [d, e] h Q = r d e h Q := rfl
theorem v_lenR {a : Addr} : lenD (.ref a) h Q = lenO h Q (h a) := rfl
theorem v_lenO {ds : List D1} : lenO h Q (some (.lst ds)) = Q (.int ds.length) h := rfl
theorem v_lenOd {kvs : Kvs} : lenO h Q (some (.dic kvs)) = Q (.int kvs.length) h := rfl
theorem v_lenT {ds : List D1} : lenD (.tup ds) h Q = Q (.int ds.length) h := rfl
theorem v_lenL {ds : List D1} : lenD (.rol ds) h Q = Q (.int ds.length) h := rfl
theorem v_lenS {z : Str} : lenD (.str z) h Q = Q (.int z.length) h := rfl
theorem v_seqK {k : List D1 → Prop} {ds : List D1} : seqK k (some ds) = k ds := rfl
theorem v_tuple {d : D1} : tupleD d h Q = seqK (fun ds => Q (.tup ds) h) (seqOf h d) := rfl
theorem v_list {d : D1} : listD d h Q = seqK (fun ds => ∀ p, h p = none → Q (.ref p) (up h p (.lst ds))) (seqOf h d) := rfl
theorem v_abs {i : Int} : absD (.int i) h Q = Q (.int (if i < 0 then -i else i)) h := rfl
theorem v_intI {i : Int} : intD (.int i) h Q = Q (.int i) h := rfl
theorem v_intB {b : Bool} : intD (.bool b) h Q = Q (.int (if b = true then 1 else 0)) h := rfl
theorem v_okL {a : Addr} : okL (.ref a) h = isLst (h a) := rfl
theorem v_isLst {xs : List D1} : isLst (some (.lst xs)) = True := rfl
theorem v_app {a : Addr} {d : D1} : appendD (.ref a) [d] h Q = lstK (fun xs => xs.length < sizeLine ∧ Q .none (up h a (.lst (xs ++ [d])))) (h a) := rfl
theorem v_lstK {k : List D1 → Prop} {xs : List D1} : lstK k (some (.lst xs)) = k xs := rfl
theorem v_slS {z : Str} {lo hi : Option Int} : slD (.str z) lo hi h Q = Q (.str (cutS z lo hi)) h := rfl
theorem v_slT {ds : List D1} {lo hi : Option Int} : slD (.tup ds) lo hi h Q = Q (.tup (cutD ds lo hi)) h := rfl
theorem v_join {a : Str} {d : D1} : joinD (.str a) d h Q = seqK (joinK a h Q) (seqOf h d) := rfl
theorem v_is {d : D1} : isD d .none h Q = Q (.bool (isNone d)) h := rfl
theorem v_isnot {d : D1} : nisD d .none h Q = Q (.bool (!isNone d)) h := rfl
theorem v_max {i j : Int} : max2D (.int i) (.int j) h Q = Q (.int (if j > i then j else i)) h := rfl
theorem v_min {i j : Int} : min2D (.int i) (.int j) h Q = Q (.int (if j < i then j else i)) h := rfl
theorem v_iSeq {t : E1} {R : List D1 → (MH → Prop) → MH → Prop} : iSeq t σ h R = t σ h fun d h1 => srcD d h1 R := rfl
theorem v_srcT {xs : List D1} {R : List D1 → (MH → Prop) → MH → Prop} : srcD (.tup xs) h R = R xs (fun _ => True) h := rfl
theorem v_srcL {xs : List D1} {R : List D1 → (MH → Prop) → MH → Prop} : srcD (.rol xs) h R = R xs (fun _ => True) h := rfl
theorem v_srcS {z : Str} {R : List D1 → (MH → Prop) → MH → Prop} : srcD (.str z) h R = R (signs z) (fun _ => True) h := rfl
theorem v_srcR {a : Addr} {R : List D1 → (MH → Prop) → MH → Prop} : srcD (.ref a) h R = srcO a h R (h a) := rfl
theorem v_srcO {a : Addr} {xs : List D1} {R : List D1 → (MH → Prop) → MH → Prop} : srcO a h R (some (.lst xs)) = R xs (stabO a xs) h := rfl
theorem v_iRg1 {t : A1} {R : List D1 → (MH → Prop) → MH → Prop} : iRg1 t σ h R = t σ h fun ds h1 => rg1 ds h1 R := rfl
theorem v_rg1 {j : Int} {R : List D1 → (MH → Prop) → MH → Prop} : rg1 [.int j] h R = ((-(2 ^ 62) ≤ j ∧ j < 2 ^ 62) ∧ R (rgD 0 j.toNat) (fun _ => True) h) := rfl
theorem v_truN {QB : Bool → MH → Prop} : truD .none h QB = QB false h := rfl
theorem v_truB {b : Bool} {QB : Bool → MH → Prop} : truD (.bool b) h QB = QB b h := rfl
theorem v_truI {i : Int} {QB : Bool → MH → Prop} : truD (.int i) h QB = QB (i != 0) h := rfl
theorem v_truS {z : Str} {QB : Bool → MH → Prop} : truD (.str z) h QB = QB (z.length != 0) h := rfl
theorem v_truR {a : Addr} {QB : Bool → MH → Prop} : truD (.ref a) h QB = truL h QB (seqO (h a)) := rfl
theorem v_truT {ds : List D1} {QB : Bool → MH → Prop} : truD (.tup ds) h QB = truL h QB (some ds) := rfl
theorem v_truRol {ds : List D1} {QB : Bool → MH → Prop} : truD (.rol ds) h QB = truL h QB (some ds) := rfl
theorem v_truL {ds : List D1} {QB : Bool → MH → Prop} : truL h QB (some ds) = QB (!ds.isEmpty) h := rfl
theorem e_dic0 : dDic0 σ h Q = ∀ p, h p = none → Q (.ref p) (up h p (.dic [])) := rfl
theorem e_disp {trs : List (E1 × E1)} : dDisp trs σ h Q = dPairs trs σ h fun ps h1 => ps.all (fun p => (scaK p.1).isSome) = true ∧ ps.length ≤ 15 ∧ ∀ p, h1 p = none → Q (.ref p) (up h1 p (.dic (dmerge [] ps))) := rfl
theorem e_pairs0 {QP : Kvs → MH → Prop} : dPairs [] σ h QP = QP [] h := rfl
theorem e_pairsS {tk tv : E1} {r : List (E1 × E1)} {QP : Kvs → MH → Prop} : dPairs ((tk, tv) :: r) σ h QP = tk σ h fun x h1 => tv σ h1 fun y h2 => dPairs r σ h2 fun ps h3 => QP ((x, y) :: ps) h3 := rfl
theorem e_chain {r r' : R1} {ta tb tc : E1} : dChain r r' ta tb tc σ h Q = ta σ h fun x h1 => tb σ h1 fun y h2 => r x y h2 (asB fun k h3 => if k = true then tc σ h3 fun z h4 => r' y z h4 Q else Q (.bool false) h3) := rfl
theorem v_bits {i : Int} : bitsD (.int i) h Q = Q (.int (Builtin.Int.intBits i : Nat)) h := rfl
theorem v_iRg3 {t : A1} {R : List D1 → (MH → Prop) → MH → Prop} : iRg3 t σ h R = t σ h fun ds h1 => rg3 ds h1 R := rfl
theorem v_rg3 {i j c : Int} {R : List D1 → (MH → Prop) → MH → Prop} : rg3 [.int i, .int j, .int c] h R = ∃ n, RgC i j c n ∧ R (rgC i c n) (fun _ => True) h := rfl
theorem v_iRg2 {t : A1} {R : List D1 → (MH → Prop) → MH → Prop} : iRg2 t σ h R = t σ h fun ds h1 => rg2 ds h1 R := rfl
theorem v_rg2 {i j : Int} {R : List D1 → (MH → Prop) → MH → Prop} : rg2 [.int i, .int j] h R = ((-(2 ^ 62) ≤ i ∧ i < 2 ^ 62 ∧ -(2 ^ 62) ≤ j ∧ j < 2 ^ 62) ∧ R (rgD i (j - i).toNat) (fun _ => True) h) := rfl
theorem v_iEn {t : A1} {R : List D1 → (MH → Prop) → MH → Prop} : iEn t σ h R = t σ h fun ds h1 => enK ds h1 R := rfl
theorem v_enT {xs : List D1} {R : List D1 → (MH → Prop) → MH → Prop} : enK [.tup xs] h R = R (enD 0 xs) (fun _ => True) h := rfl
theorem v_enR {a : Addr} {R : List D1 → (MH → Prop) → MH → Prop} : enK [.ref a] h R = enO a h R (h a) := rfl
theorem v_enO {a : Addr} {xs : List D1} {R : List D1 → (MH → Prop) → MH → Prop} : enO a h R (some (.lst xs)) = R (enD 0 xs) (stabO a xs) h := rfl
theorem v_iZp {t : A1} {R : List D1 → (MH → Prop) → MH → Prop} : iZp t σ h R = t σ h fun ds h1 => zpK ds h1 R := rfl
theorem v_zpT {xs ys : List D1} {R : List D1 → (MH → Prop) → MH → Prop} : zpK [.tup xs, .tup ys] h R = R (zpD xs ys) (fun _ => True) h := rfl
theorem v_zpR {a b : Addr} {R : List D1 → (MH → Prop) → MH → Prop} : zpK [.ref a, .ref b] h R = zpO a b h R (h a) (h b) := rfl
theorem v_zpO {a b : Addr} {xs ys : List D1} {R : List D1 → (MH → Prop) → MH → Prop} : zpO a b h R (some (.lst xs)) (some (.lst ys)) = R (zpD xs ys) (fun h => stabO a xs h ∧ stabO b ys h) h := rfl
theorem v_repr {x : D1} : reprD x h Q = (pure? 60 x = true ∧ (pd x).showable = true ∧ (pd x).shown.length ≤ sizeLine ∧ Q (.str (pd x).shown) h) := rfl
theorem v_strI {i : Int} : strD (.int i) h Q = (i.natAbs.log2 < 1920 ∧ Q (.str (Str.ofString (toString i))) h) := rfl
theorem v_strS {z : Str} : strD (.str z) h Q = Q (.str z) h := rfl
theorem v_addR {p q : Addr} : addD (.ref p) (.ref q) h Q = ∃ a b, h p = some (.lst a) ∧ h q = some (.lst b) ∧ a.length + b.length ≤ sizeLine ∧ ∀ l, h l = none → Q (.ref l) (up h l (.lst (a ++ b))) := rfl
theorem v_and {i j : Int} : andD (.int i) (.int j) h Q = Q (.int (Builtin.bitAnd i j)) h := rfl
theorem v_slR {a : Addr} {lo hi : Option Int} : slD (.ref a) lo hi h Q = slL h lo hi Q (h a) := rfl
theorem v_slL {ds : List D1} {lo hi : Option Int} : slL h lo hi Q (some (.lst ds)) = ∀ l, h l = none → Q (.ref l) (up h l (.lst (cutD ds lo hi))) := rfl
theorem v_ltS {i j : Str} : ltD (.str i) (.str j) h Q = Q (.bool (ltS i j)) h := rfl
theorem v_isi {x : D1} {n : String} : isiD x (.ty n) h Q = isiK n (fun b => Q (.bool b) h) (tyN h x) := rfl
theorem v_srtT {ds : List D1} : sortedD (.tup ds) h Q = sortK ds h Q := rfl
theorem v_srtR {a : Addr} : sortedD (.ref a) h Q = sortO h Q (h a) := rfl
theorem v_srtO {ds : List D1} : sortO h Q (some (.lst ds)) = sortK ds h Q := rfl
theorem v_srtD {kvs : Kvs} : sortO h Q (some (.dic kvs)) = sortK (kvs.map (·.1)) h Q := rfl
theorem v_revR {a : Addr} : revD (.ref a) h Q = lstK (fun xs => ∀ p, h p = none → Q (.ref p) (up h p (.lst xs.reverse))) (h a) := rfl
theorem e_split {to te : E1} : dSplit to te σ h Q = to σ h fun x h1 => (∃ z, x = .str z) ∧ te σ h1 fun y h2 => splitD x y h2 Q := rfl
theorem v_split {a b : Str} : splitD (.str a) (.str b) h Q = ((b.length == 0) = false ∧ a.length + 2 ≤ sizeLine ∧ newStrs (Txt.split a b) h Q) := rfl
theorem v_words {a : Str} : wordsD (.str a) h Q = (a.length + 2 ≤ sizeLine ∧ newStrs (Txt.words a) h Q) := rfl
theorem v_index {a : Addr} {y : D1} : indexD (.ref a) [y] h Q = lstK (fun xs => pure? 60 y = true ∧ pures? 60 xs = true ∧ ∃ (j : Nat) (z : D1), xs[j]? = some z ∧ eqF z y = true ∧ (∀ (m : Nat) (z' : D1), m < j → xs[m]? = some z' → eqF z' y = false) ∧ Q (.int (j : Nat)) h) (h a) := rfl
theorem v_iZs {t : A1} {R : List D1 → (MH → Prop) → MH → Prop} : iZs t σ h R = t σ h fun ds h1 => zsK ds h1 R := rfl
theorem v_zsT {xs : List D1} {z : Str} {R : List D1 → (MH → Prop) → MH → Prop} : zsK [.tup xs, .str z] h R = R (zpD xs (signs z)) (fun _ => True) h := rfl
theorem v_revT {ds : List D1} : revD (.tup ds) h Q = Q (.tup ds.reverse) h := rfl
theorem v_isB {a b : Bool} : isD (.bool a) (.bool b) h Q = Q (.bool (decide (a = b))) h := rfl
theorem v_mulR {p : Addr} {k : Int} : mulD (.ref p) (.int k) h Q = ∃ a, h p = some (.lst a) ∧ (-(2 ^ 63) ≤ k ∧ k < 2 ^ 63) ∧ a.length * k.toNat ≤ sizeLine ∧ ∀ l, h l = none → Q (.ref l) (up h l (.lst (List.replicate k.toNat a).flatten)) := rfl
theorem v_all {p : Addr} {ds : List D1} {bs : List Bool} (e : h p = some (.lst ds)) (f : blsOf ds = some bs) (q : Q (.bool (bs.all id)) h) : allD (.ref p) h Q := by
  unfold allD blsK
  show seqK _ (seqO (h p))
  rw [e]
  exact ⟨bs, f, q⟩
theorem v_any {p : Addr} {ds : List D1} {bs : List Bool} (e : h p = some (.lst ds)) (f : blsOf ds = some bs) (q : Q (.bool (bs.any id)) h) : anyD (.ref p) h Q := by
  unfold anyD blsK
  show seqK _ (seqO (h p))
  rw [e]
  exact ⟨bs, f, q⟩
end
end DL
namespace DL
open PySem PySem.Spec PyProof.Rows L2
/-! ### the state of the draws -/
/-- the five places of a draw's list: the cells' list at c, a place that is no number below 0, two numbers and a 3 -/
def DrO (c : Addr) (o : MO) : Prop := ∃ p acc r : Int, 0 ≤ p ∧ o = .lst [.ref c, .int p, .int acc, .int r, .int 3]
structure Dr (a c : Addr) (cs : List Int) (h : MH) : Prop where
  st : ∃ o, h a = some o ∧ DrO c o
  ce : h c = some (.lst (cs.map D.int))
theorem Dr.ne {a c : Addr} {cs : List Int} {h : MH} (d : Dr a c cs h) : c ≠ a := by
  obtain ⟨o, e, p, acc, r, _, rfl⟩ := d.st
  intro z
  have f := d.ce
  rw [z, e] at f
  cases cs with
  | nil => cases f
  | cons x xs => cases f
theorem Dr.up {a c : Addr} {cs : List Int} {h : MH} (d : Dr a c cs h) {o : MO} (k : DrO c o) : Dr a c cs (up h a o) :=
  ⟨⟨o, up_same, k⟩, by rw [up_ne d.ne]; exact d.ce⟩
theorem Dr.new {a c : Addr} {cs : List Int} {h : MH} (d : Dr a c cs h) {l : Addr} (n : h l = none) {o : MO} : Dr a c cs (DL.up h l o) := by
  obtain ⟨u, e, k⟩ := d.st
  exact ⟨⟨u, by rw [up_ne (fun z => by rw [← z, e] at n; cases n)]; exact e, k⟩, by rw [up_ne (fun z => by rw [← z, d.ce] at n; cases n)]; exact d.ce⟩
theorem Dr.put {a c : Addr} {cs : List Int} {h : MH} (d : Dr a c cs h) {l : Addr} (n1 : a ≠ l) (n2 : c ≠ l) {o : MO} : Dr a c cs (DL.up h l o) := by
  obtain ⟨u, e, k⟩ := d.st
  exact ⟨⟨u, by rw [up_ne n1]; exact e, k⟩, by rw [up_ne n2]; exact d.ce⟩
def sp__law_draw : P1 := fun ds h Q => ∃ a c cs many, ds = [.ref a, .int many] ∧ 0 < many ∧ many < 2 ^ 64 ∧ Dr a c cs h ∧ ∀ r o, 0 ≤ r → r < many → DrO c o → Q (.int r) (up h a o)
def sp__law_begin : P1 := fun ds h Q => ∃ cs : List Int, ds = [.rol (cs.map D.int)] ∧ cs.length ≤ 63 ∧ ∀ a c o, h a = none → h c = none → a ≠ c → DrO c o → Q (.ref a) (up (up h c (.lst (cs.map D.int))) a o)
theorem divOk_of {j : Int} (h : 0 < j) (h2 : j < 2 ^ 64) : divOk j := by
  exact wide_div (i := 0) (b := 64) h (by omega) (by decide) (by decide)
theorem up_id {h : MH} {a : Addr} {o : MO} (e : h a = some o) : up h a o = h := by
  funext b; unfold up; split
  · rename_i z; rw [z, e]
  · rfl
/-- a row of draws -/
theorem lcT_draws {h : MH} {a c : Addr} {cs : List Int} (d : Dr a c cs h) (P : D → Prop) {xs : List D} {g : G1} {te : E1} {vs : List Nat} {σ : Sl} {Q : KD} (hz : xs.length ≤ sizeLine)
    (he : ∀ (i : Nat) (x : D) (o : MO) (Q' : KD), xs[i]? = some x → DrO c o → (∀ y o', P y → DrO c o' → Q' y (up h a o')) → g x (wipeD σ vs) (up h a o) fun σ2 h2 => te σ2 h2 Q')
    (fin : ∀ (acc : List D) (o : MO) (p : Addr), acc.length = xs.length → (∀ y ∈ acc, P y) → DrO c o → up h a o p = none → Q (.ref p) (up (up h a o) p (.lst acc))) : lcT xs (fun _ => True) g dYes te vs σ Q h := by
  obtain ⟨o0, e0, k0⟩ := d.st
  refine ⟨hz, fun i acc hh => ∃ o, hh = up h a o ∧ DrO c o ∧ acc.length = i ∧ ∀ y ∈ acc, P y, ⟨h, le.refl, o0, (up_id e0).symm, k0, rfl, by simp⟩, fun _ _ _ _ => trivial, ?_, ?_⟩
  · rintro i x acc hh hx ⟨o, rfl, k, hl, hP⟩
    refine he i x o (fun y h4 => ∃ h5, le h5 h4 ∧ ∃ o, h5 = up h a o ∧ DrO c o ∧ (acc ++ [y]).length = i + 1 ∧ ∀ z ∈ acc ++ [y], P z) hx k fun y o' hy k' => ⟨_, le.refl, o', rfl, k', by rw [List.length_append, hl]; rfl, fun z hz => ?_⟩
    rcases List.mem_append.mp hz with hz | hz
    · exact hP z hz
    · rw [List.mem_singleton.mp hz]; exact hy
  · rintro acc hh ⟨o, rfl, k, hl, hP⟩ p np
    exact fin acc o p hl hP k np
/-! ### pick -/
def rowOf (h : MH) : D → Option (List D)
  | .str z => some (signs z)
  | .tup ds => some ds
  | .rol ds => some ds
  | .ref l => seqO (h l)
  | _ => none
theorem signs_len (z : Str) : (signs z).length = z.length := by unfold signs; rw [List.length_map]; exact Array.length_toList
theorem seqO_some {o : Option MO} {xs : List D} (e : seqO o = some xs) : o = some (.lst xs) := by
  cases o with
  | none => cases e
  | some u => cases u <;> first | (cases e; rfl) | (cases e; done)
theorem len_row {h : MH} {row : D} {xs : List D} {Q : KD} (e : rowOf h row = some xs) (q : Q (.int xs.length) h) : lenD row h Q := by
  cases row <;> try (cases e; done)
  case str z => cases e; rw [signs_len] at q; exact q
  case tup ds => cases e; exact q
  case rol ds => cases e; exact q
  case ref l =>
    have e : seqO (h l) = some xs := e
    rw [v_lenR, seqO_some e]; exact q
theorem ix_row {h : MH} {row : D} {xs : List D} {Q : KD} {k : Nat} {x : D} (e : rowOf h row = some xs) (hx : xs[k]? = some x) (q : Q x h) : ixD row (.int k) h Q := by
  cases row <;> try (cases e; done)
  case str z =>
    cases e
    unfold signs at hx
    rw [List.getElem?_map] at hx
    obtain ⟨c, hc, rfl⟩ := Option.map_eq_some_iff.mp hx
    rw [v_ixS, v_ixStr, atI_of rfl hc]; exact q
  case tup ds => cases e; rw [v_ixT, v_ixSeq, atI_of rfl hx]; exact q
  case rol ds => cases e; rw [v_ixL, v_ixSeq, atI_of rfl hx]; exact q
  case ref l =>
    have e : seqO (h l) = some xs := e
    rw [v_ixR, seqO_some e, v_ixO, v_ixSeq, atI_of rfl hx]; exact q
def sp__law_pick : P1 := fun ds h Q => ∃ a c cs row xs, ds = [.ref a, row] ∧ Dr a c cs h ∧ rowOf h row = some xs ∧ row ≠ .ref a ∧ xs ≠ [] ∧ xs.length < 2 ^ 64 ∧ ∀ x o, x ∈ xs → DrO c o → Q x (up h a o)
end DL
namespace DL
open PySem PySem.Spec PyProof.Rows L2
local macro_rules | `(tactic| walk_at "ev") => `(tactic| try simp only [e_seq, e_next, e_brk, e_cnt, e_drop, e_ret, e_retN, e_ifS, e_asg, e_gN, e_gSb, e_gTp, e_gCn, e_gNl, e_var, e_varK, e_nth0, e_nthS, e_put0, e_putS, e_c, e_op, e_un, e_call, e_nil, e_cons, e_tup, e_lst, e_test, e_asB, e_tru, e_andT, e_orT, e_notT, e_andV, e_orV, e_notV, e_if, e_aug, e_augS, e_sl, e_part, e_partK, e_noPart, e_bm0, e_bm, e_join, e_yes, e_wipe0, e_wipeS, e_lc, e_for, v_add, v_addS, v_addT, v_iadd, v_sub, v_mul, v_fdiv, v_mod, v_pow, v_shl, v_shr, v_neg, v_lt, v_le, v_gt, v_ge, v_eqI, v_neI, v_eqS, v_neS, v_inS, v_ninS, v_inT, v_ninT, v_inR, v_ninR, v_inSeq, v_seqO, v_seqR, v_seqT, v_seqL, v_ixR, v_ixT, v_ixL, v_ixS, v_atK, v_atSK, v_get, v_getL, v_getK, v_set, v_setL, v_setK, v_on1, v_on2, v_lenR, v_lenT, v_lenL, v_lenS, v_seqK, v_tuple, v_list, v_abs, v_intI, v_intB, v_okL, v_isLst, v_app, v_lstK, v_slS, v_slT, v_join, v_is, v_isnot, v_max, v_min, v_iSeq, v_srcT, v_srcL, v_srcS, v_srcR, v_srcO, v_iRg1, v_rg1, v_truN, v_truB, v_truI, v_truS, v_truR, v_truT, v_truRol, v_truL, v_inRol, v_ninRol, v_inO, v_inOd, v_inDic, v_ixO, v_ixOd, v_ixSeq, v_ixDic, v_dgetK, v_ixStr, v_getO, v_getOd, v_setO, v_setOd, v_setDic, v_lenO, v_lenOd, e_dic0, e_disp, e_pairs0, e_pairsS, e_chain, v_bits, v_iRg3, v_rg3, v_iRg2, v_rg2, v_iEn, v_enT, v_enR, v_enO, v_iZp, v_zpT, v_zpR, v_zpO, v_repr, v_strI, v_strS, v_addR, v_and, v_slR, v_slL, v_ltS, v_srtT, v_srtR, v_srtO, v_srtD, v_revR, v_revT, v_isB, v_iZs, v_zsT, e_split, v_split, v_words, v_index])
theorem nef {h : MH} {a b : Addr} {u : MO} (e : h b = some u) (n : h a = none) : b ≠ a := fun z => by rw [z, n] at e; cases e
theorem v_pop {h : MH} {Q : KD} {a : Addr} {i : Int} : popD (.ref a) [.int i] h Q = lstK (fun xs => ∃ k y, ixN xs.length i = some k ∧ xs[k]? = some y ∧ (-(2 ^ 63) ≤ i ∧ i < 2 ^ 63) ∧ Q y (up h a (.lst (xs.eraseIdx k)))) (h a) := rfl
theorem erase_perm {α : Type} : ∀ (l : List α) (j : Nat) (h : j < l.length), (l[j] :: l.eraseIdx j).Perm l
  | x :: r, 0, _ => List.Perm.refl _
  | x :: r, j + 1, h => by
    show (r[j]'(Nat.lt_of_succ_lt_succ h) :: x :: r.eraseIdx j).Perm (x :: r)
    exact (List.Perm.swap x _ _).trans ((erase_perm r j (Nat.lt_of_succ_lt_succ h)).cons x)
theorem divOk_2 : divOk 2 := divOk_of (by decide) (by decide)
theorem divOk_16 : divOk 16 := divOk_of (by decide) (by decide)
theorem mulOk_l {i j : Int} (h : -(2 ^ 64) < i ∧ i < 2 ^ 64) : mulOk i j := .inl h
theorem mulOk_r {i j : Int} (h : -(2 ^ 64) < j ∧ j < 2 ^ 64) : mulOk i j := .inr h
theorem isi_eval {h : MH} {Q : KD} {x : D} {t n : String} {b : Bool} (e : tyN h x = some t) (k : kitB t n = some b) : isiD x (.ty n) h Q = Q (.bool b) h := by
  show isiK n _ (tyN h x) = _
  rw [e]
  show kitK _ (kitB t n) = _
  rw [k]; rfl
/-- the type's name of what is pure -/
def tyP : D → String
  | .none => "NoneType"
  | .bool _ => "bool"
  | .int _ => "int"
  | .str _ => "str"
  | .tup _ => "tuple"
  | .rol _ => "list"
  | .ref _ => ""
  | .ty _ => ""
theorem ty_pure {n : Nat} {x : D} (p : pure? n x = true) (h : MH) : tyN h x = some (tyP x) := by
  cases x <;> first | rfl | (simp [pure?] at p)
theorem eqD_pure {x y : D} {h : MH} {Q : KD} (px : pure? 60 x = true) (py : pure? 60 y = true) : eqD x y h Q = Q (.bool (eqF x y)) h := by
  have v : ∀ {z : D}, pure? 60 z = true → view h z = some (pd z) := fun {z} p => by
    have : viewP z = some (pd z) := by unfold viewP; rw [if_pos p]
    cases z <;> first | exact this | (simp [pure?] at p)
  show eqvO (view h x) (view h y) _ = _
  rw [v px, v py]; rfl
theorem neD_pure {x y : D} {h : MH} {Q : KD} (px : pure? 60 x = true) (py : pure? 60 y = true) : neD x y h Q = Q (.bool (!eqF x y)) h := by
  have v : ∀ {z : D}, pure? 60 z = true → view h z = some (pd z) := fun {z} p => by
    have : viewP z = some (pd z) := by unfold viewP; rw [if_pos p]
    cases z <;> first | exact this | (simp [pure?] at p)
  show eqvO (view h x) (view h y) _ = _
  rw [v px, v py]; rfl
theorem v_eqIS {i : Int} {z : Str} {h : MH} {Q : KD} : eqD (.int i) (.str z) h Q = Q (.bool false) h := rfl
theorem v_neIS {i : Int} {z : Str} {h : MH} {Q : KD} : neD (.int i) (.str z) h Q = Q (.bool true) h := rfl
theorem v_eqB {a b : Bool} {h : MH} {Q : KD} : eqD (.bool a) (.bool b) h Q = Q (.bool (a == b)) h := rfl
theorem v_neB {a b : Bool} {h : MH} {Q : KD} : neD (.bool a) (.bool b) h Q = Q (.bool (!(a == b))) h := rfl
mutual
theorem pure_le : ∀ {n m : Nat}, n ≤ m → ∀ x : D, pure? n x = true → pure? m x = true
  | _, _, _, .none, _ => by simp [pure?]
  | _, _, _, .bool _, _ => by simp [pure?]
  | _, _, _, .int _, _ => by simp [pure?]
  | _, _, _, .str _, _ => by simp [pure?]
  | 0, _, _, .tup ds, p => by simp [pure?] at p
  | n + 1, 0, h, .tup ds, p => by omega
  | n + 1, m + 1, h, .tup ds, p => by
    have p' : pures? n ds = true := by simpa [pure?] using p
    simp only [pure?]; exact pures_le (by omega) ds p'
  | 0, _, _, .rol ds, p => by simp [pure?] at p
  | n + 1, 0, h, .rol ds, p => by omega
  | n + 1, m + 1, h, .rol ds, p => by
    have p' : pures? n ds = true := by simpa [pure?] using p
    simp only [pure?]; exact pures_le (by omega) ds p'
  | _, _, _, .ref _, p => by simp [pure?] at p
  | _, _, _, .ty _, p => by simp [pure?] at p
theorem pures_le : ∀ {n m : Nat}, n ≤ m → ∀ ds : List D, pures? n ds = true → pures? m ds = true
  | _, _, _, [], _ => by simp [pures?]
  | n, m, h, d :: ds, p => by
    have p' : pure? n d = true ∧ pures? n ds = true := by simpa [pures?] using p
    simp only [pures?, pure_le h d p'.1, pures_le h ds p'.2]; rfl
end
theorem pures_mem {n : Nat} {ds : List D} (p : pures? n ds = true) {x : D} (hx : x ∈ ds) : pure? n x = true := by
  rw [pures_all, List.all_eq_true] at p
  exact p x hx
/-! comprehensions over rows of one kind -/
section
variable {α : Type} {h : MH} {xs : List D} {stab : MH → Prop} {g : G1} {te : E1} {tt : T1} {vs : List Nat} {σ : Sl} {Q : KD}
theorem lcT_t (ys : List α) (e f : α → D) (ex : xs = ys.map e) (hz : ys.length ≤ sizeLine) (hs : stab h)
    (he : ∀ y ∈ ys, ∀ Q' : KD, (∀ h', le h h' → Q' (f y) h') → g (e y) (wipeD σ vs) h fun σ2 h2 => te σ2 h2 Q') (fin : ∀ p, h p = none → Q (.ref p) (up h p (.lst (ys.map f)))) : lcT xs stab g dYes te vs σ Q h := by
  subst ex
  refine ⟨by rw [List.length_map]; exact hz, fun i a hh => hh = h ∧ a = (ys.take i).map f, ⟨h, le.refl, rfl, rfl⟩, fun i a hh e => by rw [e.1]; exact hs, ?_, ?_⟩
  · rintro i x a hh hx ⟨rfl, rfl⟩
    rw [List.getElem?_map] at hx
    obtain ⟨y, hy, rfl⟩ := Option.map_eq_some_iff.mp hx
    obtain ⟨hi, ey⟩ := List.getElem?_eq_some_iff.mp hy
    refine he y (List.mem_of_getElem? hy) (fun z h4 => ∃ h5, le h5 h4 ∧ h5 = hh ∧ (ys.take i).map f ++ [z] = (ys.take (i + 1)).map f) fun h' l => ⟨hh, l, rfl, ?_⟩
    rw [List.take_succ_eq_append_getElem hi, List.map_append, ey]; rfl
  · rintro a hh ⟨rfl, rfl⟩ p np
    rw [List.length_map, List.take_length]
    exact fin p np
theorem lcT_tf (ys : List α) (e f : α → D) (P : α → Bool) (ex : xs = ys.map e) (hz : ys.length ≤ sizeLine) (hs : stab h)
    (he : ∀ y ∈ ys, ∀ (Q' : KD) (R : MH → Prop), (P y = true → ∀ h', le h h' → Q' (f y) h') → (P y = false → ∀ h', le h h' → R h') → g (e y) (wipeD σ vs) h fun σ2 h2 => tt σ2 h2 fun b h3 => if b = true then te σ2 h3 Q' else R h3)
    (fin : ∀ p, h p = none → Q (.ref p) (up h p (.lst ((ys.filter P).map f)))) : lcT xs stab g tt te vs σ Q h := by
  subst ex
  refine ⟨by rw [List.length_map]; exact hz, fun i a hh => hh = h ∧ a = ((ys.take i).filter P).map f, ⟨h, le.refl, rfl, rfl⟩, fun i a hh e => by rw [e.1]; exact hs, ?_, ?_⟩
  · rintro i x a hh hx ⟨rfl, rfl⟩
    rw [List.getElem?_map] at hx
    obtain ⟨y, hy, rfl⟩ := Option.map_eq_some_iff.mp hx
    obtain ⟨hi, ey⟩ := List.getElem?_eq_some_iff.mp hy
    refine he y (List.mem_of_getElem? hy) (fun z h4 => ∃ h5, le h5 h4 ∧ h5 = hh ∧ ((ys.take i).filter P).map f ++ [z] = ((ys.take (i + 1)).filter P).map f) (fun h4 => ∃ h5, le h5 h4 ∧ h5 = hh ∧ ((ys.take i).filter P).map f = ((ys.take (i + 1)).filter P).map f) (fun k h' l => ⟨hh, l, rfl, ?_⟩) fun k h' l => ⟨hh, l, rfl, ?_⟩
    · rw [List.take_succ_eq_append_getElem hi, List.filter_append, List.map_append, ey, List.filter_cons, if_pos k]; rfl
    · rw [List.take_succ_eq_append_getElem hi, List.filter_append, List.map_append, ey, List.filter_cons, if_neg (by rw [k]; exact Bool.false_ne_true), List.filter_nil, List.map_nil, List.append_nil]
  · rintro a hh ⟨rfl, rfl⟩ p np
    rw [List.length_map, List.take_length]
    exact fin p np
end
theorem rgD_0 (n : Nat) : rgD 0 n = (List.range n).map fun (i : Nat) => D.int i := by
  unfold rgD
  exact List.map_congr_left fun i _ => by rw [Int.zero_add]
theorem le_up {h : MH} {p : Addr} {o : MO} (n : h p = none) : le h (up h p o) := le.up n
theorem lh_le {Q : KD} {d : D} {h h' : MH} (l : le h h') (q : Q d h) : Lh Q d h' := ⟨h, l, q⟩
theorem all_bools {h : MH} {Q : KD} {p : Addr} {bs : List Bool} (q : Q (.bool (bs.all id)) (up h p (.lst (bs.map D.bool)))) : allD (.ref p) (up h p (.lst (bs.map D.bool))) Q := v_all up_same (blsOf_map bs) q
theorem pures_of {n : Nat} {ds : List D} (h : ∀ x ∈ ds, pure? n x = true) : pures? n ds = true := by
  rw [pures_all, List.all_eq_true]; exact h
theorem bnd62 {N : Nat} (h : N ≤ 1048576) : -(2 ^ 62) ≤ (N : Int) ∧ (N : Int) < 2 ^ 62 := by omega
theorem cut_to {α : Type} {f : α → D} {l : List α} {k : Nat} (h : k ≤ l.length) : cutD (l.map f) none (some (k : Int)) = (l.take k).map f := by
  unfold cutD
  rw [HT.sIx_nat, HT.sIx_none, List.length_map, Nat.min_eq_left h, List.drop_zero, Nat.sub_zero, List.map_take]
theorem cut_from {α : Type} {f : α → D} {l : List α} {k : Nat} (h : k ≤ l.length) : cutD (l.map f) (some (k : Int)) none = (l.drop k).map f := by
  unfold cutD
  rw [HT.sIx_nat, HT.sIx_none, List.length_map, Nat.min_eq_left h, ← List.map_drop, List.take_of_length_le (by rw [List.length_map, List.length_drop]; exact Nat.le_refl _)]
theorem up4 {h : MH} {a b : Addr} (n : a ≠ b) {x y z w : MO} : up (up (up (up h a x) b y) a z) b w = up (up h a z) b w := by
  funext c; unfold up; by_cases p : c = b <;> by_cases q : c = a <;> simp_all
theorem up3 {h : MH} {a b : Addr} (n : a ≠ b) {x y z : MO} : up (up (up h a x) b y) a z = up (up h a z) b y := by
  funext c; unfold up; by_cases p : c = b <;> by_cases q : c = a <;> simp_all
theorem sl_lt {n : Nat} (h : n ≤ 1000000) : n < sizeLine := Nat.lt_of_le_of_lt h (by decide)
theorem rg_len (n : Nat) : (rgD 0 ((n : Int)).toNat).length = n := by rw [Int.toNat_natCast, rgD_0, List.length_map, List.length_range]
theorem rg_at {n i : Nat} {x : D} (h : (rgD 0 ((n : Int)).toNat)[i]? = some x) : i < n ∧ x = .int (i : Nat) := by
  rw [Int.toNat_natCast, rgD_0, List.getElem?_map] at h
  obtain ⟨y, hy, rfl⟩ := Option.map_eq_some_iff.mp h
  obtain ⟨hl, e⟩ := List.getElem?_eq_some_iff.mp hy
  rw [List.length_range] at hl
  rw [List.getElem_range] at e
  subst e
  exact ⟨hl, rfl⟩
theorem cut_k {l : List D} {k : Nat} : cutD l none (some (k : Int)) = l.take k := by
  unfold cutD
  rw [HT.sIx_nat, HT.sIx_none, List.drop_zero, Nat.sub_zero]
  by_cases h : k ≤ l.length
  · rw [Nat.min_eq_left h]
  · rw [Nat.min_eq_right (by omega), List.take_length, List.take_of_length_le (by omega)]
/-! what draws and new things leave -/
structure Ext (h : MH) (a : Addr) (o : MO) (H : MH) : Prop where
  le_ : le (up h a o) H
  at_ : H a = some o
section
variable {h H : MH} {a l c : Addr} {o o' x : MO} {cs : List Int}
theorem Ext.start (e : h a = some o) : Ext h a o h := ⟨by rw [up_id e]; exact le.refl, e⟩
theorem Ext.draw (E : Ext h a o H) : Ext h a o' (up H a o') := ⟨fun y u hu => by
  by_cases z : y = a
  · subst z; rw [up_same] at hu ⊢; exact hu
  · rw [up_ne z] at hu ⊢; exact E.le_ y u (by rw [up_ne z]; exact hu), up_same⟩
theorem Ext.ne (E : Ext h a o H) (n : H l = none) : a ≠ l := nef E.at_ n
theorem Ext.new (E : Ext h a o H) (n : H l = none) : Ext h a o (up H l x) := ⟨E.le_.trans (le.up n), by rw [up_ne (E.ne n)]; exact E.at_⟩
theorem Ext.grow {H' : MH} (E : Ext h a o H) (w : le H H') : Ext h a o H' := ⟨E.le_.trans w, w _ _ E.at_⟩
theorem Ext.fresh (E : Ext h a o H) (n : H l = none) : h l = none := by
  cases z : h l with
  | none => rfl
  | some u =>
    have := E.le_ l u (by rw [up_ne (E.ne n).symm]; exact z)
    rw [n] at this; cases this
theorem Ext.get (E : Ext h a o H) {y : Addr} {u : MO} (e : h y = some u) (n : y ≠ a) : H y = some u := E.le_ y u (by rw [up_ne n]; exact e)
theorem Ext.dr (E : Ext h a o H) (d : Dr a c cs h) (k : DrO c o) : Dr a c cs H := ⟨⟨o, E.at_, k⟩, E.get d.ce d.ne⟩
theorem Ext.fin (E : Ext h a o H) : le (up (up h a o) l x) (up H l x) := le.up2 E.le_
end
theorem nats_of {K : Nat} : ∀ {acc : List D}, (∀ y ∈ acc, ∃ k : Nat, k < K ∧ y = .int k) → ∃ row : List Nat, acc = (row.map fun (x : Nat) => D.int x) ∧ (∀ x ∈ row, x < K) ∧ row.length = acc.length
  | [], _ => ⟨[], rfl, by simp, rfl⟩
  | y :: r, h => by
    obtain ⟨k, hk, rfl⟩ := h y (by simp)
    obtain ⟨row, e, hr, hl⟩ := nats_of (acc := r) fun z hz => h z (by simp [hz])
    refine ⟨k :: row, by rw [e]; rfl, fun x hx => ?_, by rw [List.length_cons, List.length_cons, hl]⟩
    rcases List.mem_cons.mp hx with rfl | hx
    · exact hk
    · exact hr x hx
theorem lcT_any {α : Type} {h : MH} {xs : List D} {stab : MH → Prop} {g : G1} {te : E1} {vs : List Nat} {σ : Sl} {Q : KD} (P : D → Prop) (ys : List α) (e : α → D) (ex : xs = ys.map e) (hz : ys.length ≤ sizeLine) (hs : stab h)
    (he : ∀ y ∈ ys, ∀ Q' : KD, (∀ z h', P z → le h h' → Q' z h') → g (e y) (wipeD σ vs) h fun σ2 h2 => te σ2 h2 Q') (fin : ∀ acc p, acc.length = ys.length → (∀ z ∈ acc, P z) → h p = none → Q (.ref p) (up h p (.lst acc))) : lcT xs stab g dYes te vs σ Q h := by
  subst ex
  refine ⟨by rw [List.length_map]; exact hz, fun i a hh => hh = h ∧ a.length = i ∧ ∀ z ∈ a, P z, ⟨h, le.refl, rfl, rfl, by simp⟩, fun i a hh e => by rw [e.1]; exact hs, ?_, ?_⟩
  · rintro i x a hh hx ⟨rfl, rfl, hp⟩
    rw [List.getElem?_map] at hx
    obtain ⟨y, hy, rfl⟩ := Option.map_eq_some_iff.mp hx
    refine he y (List.mem_of_getElem? hy) (fun z h4 => ∃ h5, le h5 h4 ∧ h5 = hh ∧ (a ++ [z]).length = a.length + 1 ∧ ∀ w ∈ a ++ [z], P w) fun z h' pz l => ⟨hh, l, rfl, by rw [List.length_append]; rfl, fun w hw => ?_⟩
    rcases List.mem_append.mp hw with hw | hw
    · exact hp w hw
    · rw [List.mem_singleton.mp hw]; exact pz
  · rintro a hh ⟨rfl, hl, hp⟩ p np
    rw [List.length_map] at hl
    exact fin a p hl hp np
theorem v_sum {p : Addr} {h : MH} {Q : KD} {is : List Int} (e : h p = some (.lst (is.map D.int))) (q : Q (.int is.sum) h) : sumD (.ref p) h Q := by
  show seqK _ (seqO (h p))
  rw [e]
  exact ⟨is, intsOf_map is, q⟩
theorem sum_le : ∀ (ws : List Int) (m : Int), 0 ≤ m → (∀ w ∈ ws, 0 ≤ w ∧ w ≤ m) → 0 ≤ ws.sum ∧ ws.sum ≤ m * ws.length
  | [], m, _, _ => by simp
  | w :: r, m, hm, h => by
    obtain ⟨a, b⟩ := sum_le r m hm fun x hx => h x (by simp [hx])
    obtain ⟨c, d⟩ := h w (by simp)
    rw [List.sum_cons, List.length_cons]
    refine ⟨by omega, ?_⟩
    have : m * ((r.length + 1 : Nat) : Int) = m * (r.length : Int) + m := by rw [Int.natCast_add, Int.mul_add]; simp
    omega
theorem set_map_range (f : Nat → D) (m p : Nat) (y : D) : ((List.range m).map f).set p y = (List.range m).map fun q => if q = p then y else f q := by
  apply List.ext_getElem?
  intro i
  rw [List.getElem?_map]
  by_cases h : i < m
  · rw [List.getElem?_range h]
    by_cases e : i = p
    · subst e
      rw [List.getElem?_set_self (by rw [List.length_map, List.length_range]; exact h)]
      simp
    · rw [List.getElem?_set_ne (Ne.symm e), List.getElem?_map, List.getElem?_range h]
      simp [e]
  · rw [List.getElem?_eq_none (by rw [List.length_set, List.length_map, List.length_range]; omega), List.getElem?_eq_none (by rw [List.length_range]; omega)]
    rfl
theorem v_maxL {p : Addr} {h : MH} {Q : KD} {is : List Int} (e : h p = some (.lst (is.map D.int))) (ne : 0 < is.length) (q : ∀ m, m ∈ is → (∀ y, y ∈ is → y ≤ m) → Q (.int m) h) : maxLD (.ref p) h Q := by
  show seqK _ (seqO (h p))
  rw [e]
  exact ⟨is, intsOf_map is, ne, q⟩
end DL
namespace DL
open PySem PySem.Spec PyProof.Rows L2
/-! what a def that draws has laid: ws are its own things (new since h), in hh; the rest of h stands, but for the draws' list -/
structure LV (h : MH) (a c : Addr) (cs : List Int) (hh : MH) (ws : List (Addr × MO)) : Prop where
  dr0 : Dr a c cs h
  ext : ∃ o, DrO c o ∧ Ext h a o hh
  at_ : ∀ p ∈ ws, hh p.1 = some p.2
  fr : ∀ p ∈ ws, h p.1 = none
  nd : (ws.map (·.1)).Nodup
section
variable {h hh : MH} {a c p l : Addr} {cs : List Int} {ws : List (Addr × MO)} {o x y : MO} {Q : KD}
theorem LV.start (d : Dr a c cs h) : LV h a c cs h [] := by
  obtain ⟨o, e, k⟩ := d.st
  exact ⟨d, ⟨o, k, Ext.start e⟩, by simp, by simp, by simp⟩
theorem LV.dr (L : LV h a c cs hh ws) : Dr a c cs hh := let ⟨_, k, E⟩ := L.ext; E.dr L.dr0 k
theorem LV.old (L : LV h a c cs hh ws) {b : Addr} {u : MO} (e : h b = some u) (n : b ≠ a) : hh b = some u := let ⟨_, _, E⟩ := L.ext; E.get e n
theorem LV.mem (L : LV h a c cs hh ws) (m : (l, x) ∈ ws) : hh l = some x := L.at_ _ m
theorem LV.get (L : LV h a c cs hh ws) (i : Nat) (e : ws[i]? = some (l, x)) : hh l = some x := L.at_ _ (List.mem_of_getElem? e)
theorem LV.ne (L : LV h a c cs hh ws) (n : hh p = none) : p ≠ a := let ⟨_, _, E⟩ := L.ext; (E.ne n).symm
theorem LV.na (L : LV h a c cs hh ws) (m : (l, x) ∈ ws) : l ≠ a := fun z => by
  obtain ⟨o, e, _⟩ := L.dr0.st
  have := L.fr _ m
  rw [show (l, x).1 = a from z, e] at this; cases this
theorem LV.fresh (L : LV h a c cs hh ws) (n : hh p = none) : h p = none := let ⟨_, _, E⟩ := L.ext; E.fresh n
theorem LV.new (L : LV h a c cs hh ws) (n : hh p = none) (x : MO) : LV h a c cs (up hh p x) ((p, x) :: ws) := by
  obtain ⟨o, k, E⟩ := L.ext
  refine ⟨L.dr0, ⟨o, k, E.new n⟩, fun q hq => ?_, fun q hq => ?_, ?_⟩
  · rcases List.mem_cons.mp hq with rfl | hq
    · exact up_same
    · have e := L.at_ q hq
      rw [up_ne (nef e n)]; exact e
  · rcases List.mem_cons.mp hq with rfl | hq
    · exact E.fresh n
    · exact L.fr q hq
  · rw [List.map_cons, List.nodup_cons]
    refine ⟨fun hm => ?_, L.nd⟩
    obtain ⟨q, hq, e⟩ := List.mem_map.mp hm
    have := L.at_ q hq
    rw [e, n] at this; cases this
theorem LV.drawn (L : LV h a c cs hh ws) (k : DrO c o) : LV h a c cs (up hh a o) ws := by
  obtain ⟨o0, k0, E⟩ := L.ext
  refine ⟨L.dr0, ⟨o, k, E.draw⟩, fun q hq => ?_, L.fr, L.nd⟩
  rw [up_ne (L.na (x := q.2) hq)]; exact L.at_ q hq
theorem LV.set (L : LV h a c cs hh ws) (i : Nat) (e : ws[i]? = some (l, x)) (y : MO) : LV h a c cs (up hh l y) (ws.set i (l, y)) := by
  obtain ⟨o, k, E⟩ := L.ext
  have m := List.mem_of_getElem? e
  have hl : h l = none := L.fr _ m
  have la : l ≠ a := L.na m
  have E' : Ext h a o (up hh l y) := by
    refine ⟨fun b u q => ?_, by rw [up_ne la.symm]; exact E.at_⟩
    by_cases z : b = l
    · subst z; rw [up_ne la, hl] at q; cases q
    · rw [up_ne z]; exact E.le_ b u q
  have hi := (List.getElem?_eq_some_iff.mp e).1
  have ei := (List.getElem?_eq_some_iff.mp e).2
  have emap : (ws.set i (l, y)).map (·.1) = ws.map (·.1) := by
    rw [List.map_set]
    refine List.ext_getElem? fun j => ?_
    by_cases z : j = i
    · subst z
      rw [List.getElem?_set_self (by rw [List.length_map]; exact hi), List.getElem?_map, e]; rfl
    · rw [List.getElem?_set_ne (Ne.symm z)]
  refine ⟨L.dr0, ⟨o, k, E'⟩, fun q hq => ?_, fun q hq => ?_, by rw [emap]; exact L.nd⟩
  · obtain ⟨j, hj⟩ := List.getElem?_of_mem hq
    by_cases z : j = i
    · subst z
      rw [List.getElem?_set_self hi] at hj
      cases hj
      exact up_same
    · rw [List.getElem?_set_ne (Ne.symm z)] at hj
      have ql : q.1 ≠ l := fun w => by
        have n1 := L.nd
        have e1 : (ws.map (·.1))[j]? = some l := by rw [List.getElem?_map, hj, ← w]; rfl
        have e2 : (ws.map (·.1))[i]? = some l := by rw [List.getElem?_map, e]; rfl
        have h1 := (List.getElem?_eq_some_iff.mp e1)
        have h2 := (List.getElem?_eq_some_iff.mp e2)
        obtain ⟨a1, b1⟩ := h1
        obtain ⟨a2, b2⟩ := h2
        exact z ((List.getElem_inj n1).mp (b1.trans b2.symm))
      rw [up_ne ql]; exact L.at_ q (List.mem_of_getElem? hj)
  · obtain ⟨j, hj⟩ := List.getElem?_of_mem hq
    by_cases z : j = i
    · subst z
      rw [List.getElem?_set_self hi] at hj
      cases hj
      exact hl
    · rw [List.getElem?_set_ne (Ne.symm z)] at hj
      exact L.fr q (List.mem_of_getElem? hj)
/-- fewer things are told -/
theorem LV.sub (L : LV h a c cs hh ws) {vs : List (Addr × MO)} (s : vs.Sublist ws) : LV h a c cs hh vs := ⟨L.dr0, L.ext, fun p hp => L.at_ p (s.subset hp), fun p hp => L.fr p (s.subset hp), (s.map _).nodup L.nd⟩
theorem LV.perm (L : LV h a c cs hh ws) {vs : List (Addr × MO)} (p : ws.Perm vs) : LV h a c cs hh vs := ⟨L.dr0, L.ext, fun q hq => L.at_ q (p.symm.subset hq), fun q hq => L.fr q (p.symm.subset hq), (p.map _).nodup_iff.mp L.nd⟩
theorem LV.tl {w : Addr × MO} (L : LV h a c cs hh (w :: ws)) : LV h a c cs hh ws := L.sub (List.sublist_cons_self w ws)
theorem LV.nil (L : LV h a c cs hh ws) : LV h a c cs hh [] := L.sub (List.nil_sublist ws)
theorem LV.kp {w v : Addr × MO} (L : LV h a c cs hh (w :: v :: ws)) : LV h a c cs hh (w :: ws) := L.sub ((List.sublist_cons_self v ws).cons_cons w)
/-- readers of it -/
theorem LV.newE (L : LV h a c cs hh ws) {h1 : MH} (n : hh p = none) (e : up hh p x = h1) : LV h a c cs h1 ((p, x) :: ws) := e ▸ L.new n x
theorem LV.draw (L : LV h a c cs hh ws) {n : Int} (hn : 0 < n) (hn2 : n < 2 ^ 64) (q : ∀ r h1, 0 ≤ r → r < n → LV h a c cs h1 ws → Q (.int r) h1) : sp__law_draw [.ref a, .int n] hh Q :=
  ⟨a, c, cs, n, rfl, hn, hn2, L.dr, fun r o r0 r1 k => q r _ r0 r1 (L.drawn k)⟩
/-- one of a list that is at hand -/
theorem LV.pick (L : LV h a c cs hh ws) {xs : List D} (e : hh l = some (.lst xs)) (la : l ≠ a) (ne : xs ≠ []) (hl : xs.length < 2 ^ 64) (q : ∀ x ∈ xs, ∀ h1, LV h a c cs h1 ws → Q x h1) : sp__law_pick [.ref a, .ref l] hh Q :=
  ⟨a, c, cs, .ref l, xs, rfl, L.dr, (by show seqO (hh l) = _; rw [e]; rfl), (fun z => by cases z; exact la rfl), ne, hl, fun x o hx k => q x hx _ (L.drawn k)⟩
theorem LV.pickT (L : LV h a c cs hh ws) {xs : List D} (ne : xs ≠ []) (hl : xs.length < 2 ^ 64) (q : ∀ x ∈ xs, ∀ h1, LV h a c cs h1 ws → Q x h1) : sp__law_pick [.ref a, .tup xs] hh Q :=
  ⟨a, c, cs, .tup xs, xs, rfl, L.dr, rfl, (fun z => by cases z), ne, hl, fun x o hx k => q x hx _ (L.drawn k)⟩
/-- one of a list that is written down -/
theorem LV.pickN (L : LV h a c cs hh ws) {xs : List D} (ne : xs ≠ []) (hl : xs.length < 100) (q : ∀ x ∈ xs, ∀ h1, LV h a c cs h1 ws → Q x h1) : ∀ p, hh p = none → sp__law_pick [.ref a, .ref p] (up hh p (.lst xs)) Q := fun p n =>
  (L.new n (.lst xs)).pick (up_same) (L.ne n) ne (by omega) fun x hx h1 L1 => q x hx h1 L1.tl
/-- the end -/
theorem LV.ret (L : LV h a c cs hh ws) {d : D} (q : ∀ o, DrO c o → Q d (up h a o)) : Lh Q d hh := let ⟨o, k, E⟩ := L.ext; ⟨_, E.le_, q o k⟩
theorem LV.retN (L : LV h a c cs hh ws) (m : (p, x) ∈ ws) {d : D} (q : ∀ o, DrO c o → h p = none → Q d (up (up h a o) p x)) : Lh Q d hh := by
  obtain ⟨o, k, E⟩ := L.ext
  refine ⟨_, ?_, q o k (L.fr _ m)⟩
  intro b u e
  by_cases z : b = p
  · subst z; rw [up_same] at e; cases e; exact L.at_ _ m
  · rw [up_ne z] at e; exact E.le_ b u e
end
end DL
namespace DL
open PySem PySem.Spec PyProof.Rows L2
/-! what has a value and changes nothing: proofs that grow with the text alone (a walk over a long list is too much for the kernel) -/
def Ev (t : E1) (σ : Sl) (h : MH) (x : D) : Prop := ∀ Q : KD, Q x h → t σ h Q
def EvA (t : A1) (σ : Sl) (h : MH) (xs : List D) : Prop := ∀ Q : List D → MH → Prop, Q xs h → t σ h Q
section
variable {σ : Sl} {h : MH} {x y z : D} {xs ys : List D} {t a b : E1} {ta r : A1} {i j : Int} {s u : Str} {Q : KD}
theorem Ev.c : Ev (dC x) σ h x := fun _ q => q
theorem Ev.var {k : Nat} (e : nth σ k = some x) : Ev (dVar k) σ h x := fun Q q => by rw [e_var, e]; exact q
theorem EvA.nil : EvA dNil σ h [] := fun _ q => q
theorem EvA.cons (ht : Ev t σ h x) (hr : EvA r σ h xs) : EvA (dCons t r) σ h (x :: xs) := fun Q q => ht _ (hr _ q)
theorem Ev.tup (ht : EvA ta σ h xs) (hl : xs.length ≤ sizeLine) : Ev (dTup ta) σ h (.tup xs) := fun Q q => ht _ ⟨hl, q⟩
theorem Ev.op {rr : R1} (ha : Ev a σ h x) (hb : Ev b σ h y) (hr : ∀ Q : KD, Q z h → rr x y h Q) : Ev (dOp rr a b) σ h z := fun Q q => ha _ (hb _ (hr Q q))
theorem Ev.un {rr : D → MH → KD → Prop} (ha : Ev a σ h x) (hr : ∀ Q : KD, Q z h → rr x h Q) : Ev (dUn rr a) σ h z := fun Q q => ha _ (hr Q q)
theorem Ev.call {rr : C1} (ha : EvA ta σ h xs) (hr : ∀ Q : KD, Q z h → rr xs h Q) : Ev (dCall rr ta) σ h z := fun Q q => ha _ (hr Q q)
theorem Ev.addI (ha : Ev a σ h (.int i)) (hb : Ev b σ h (.int j)) : Ev (dOp addD a b) σ h (.int (i + j)) := .op ha hb fun _ q => q
theorem Ev.subI (ha : Ev a σ h (.int i)) (hb : Ev b σ h (.int j)) : Ev (dOp subD a b) σ h (.int (i - j)) := .op ha hb fun _ q => q
theorem Ev.negI (ha : Ev a σ h (.int i)) : Ev (dUn negD a) σ h (.int (-i)) := .un ha fun _ q => q
theorem Ev.addS (ha : Ev a σ h (.str s)) (hb : Ev b σ h (.str u)) (hl : s.length + u.length ≤ sizeLine) : Ev (dOp addD a b) σ h (.str (s ++ u)) := .op ha hb fun _ q => ⟨hl, q⟩
theorem Ev.addT (ha : Ev a σ h (.tup xs)) (hb : Ev b σ h (.tup ys)) (hl : xs.length + ys.length ≤ sizeLine) : Ev (dOp addD a b) σ h (.tup (xs ++ ys)) := .op ha hb fun _ q => ⟨hl, q⟩
theorem Ev.eqI (ha : Ev a σ h (.int i)) (hb : Ev b σ h (.int j)) : Ev (dOp eqD a b) σ h (.bool (decide (i = j))) := .op ha hb fun _ q => by rw [v_eqI]; exact q
theorem Ev.intB {k : Bool} (ha : Ev a σ h (.bool k)) : Ev (dCall (on1 intD) (dCons a dNil)) σ h (.int (if k = true then 1 else 0)) := .call (.cons ha .nil) fun _ q => q
theorem Ev.ixT {k : Nat} (ha : Ev a σ h (.tup xs)) (hb : Ev b σ h (.int i)) (e : i = (k : Nat)) (hx : xs[k]? = some x) : Ev (dOp ixD a b) σ h x := .op ha hb fun Q q => by
  show atK (atI xs i) h Q
  rw [atI_of e hx]; exact q
theorem Ev.t0 : Ev (dTup dNil) σ h (.tup []) := .tup .nil (by decide)
theorem Ev.t1 (ha : Ev a σ h x) : Ev (dTup (dCons a dNil)) σ h (.tup [x]) := .tup (.cons ha .nil) (show 1 ≤ sizeLine by decide)
theorem Ev.t2 (ha : Ev a σ h x) (hb : Ev b σ h y) : Ev (dTup (dCons a (dCons b dNil))) σ h (.tup [x, y]) := .tup (.cons ha (.cons hb .nil)) (show 2 ≤ sizeLine by decide)
theorem Ev.t3 (ha : Ev a σ h x) (hb : Ev b σ h y) (hc : Ev t σ h z) : Ev (dTup (dCons a (dCons b (dCons t dNil)))) σ h (.tup [x, y, z]) := .tup (.cons ha (.cons hb (.cons hc .nil))) (show 3 ≤ sizeLine by decide)
theorem Ev.t4 {t' : E1} {w : D} (ha : Ev a σ h x) (hb : Ev b σ h y) (hc : Ev t σ h z) (hd : Ev t' σ h w) : Ev (dTup (dCons a (dCons b (dCons t (dCons t' dNil))))) σ h (.tup [x, y, z, w]) := .tup (.cons ha (.cons hb (.cons hc (.cons hd .nil)))) (show 4 ≤ sizeLine by decide)
theorem Ev.slTo (ha : Ev a σ h (.tup xs)) (hb : Ev b σ h (.int i)) : Ev (dSl a dNoPart (dPart b)) σ h (.tup (cutD xs none (some i))) := fun Q q => ha _ (hb _ q)
theorem Ev.slFrom (ha : Ev a σ h (.tup xs)) (hb : Ev b σ h (.int i)) : Ev (dSl a (dPart b) dNoPart) σ h (.tup (cutD xs (some i) none)) := fun Q q => ha _ (hb _ q)
/-- a name is set, and on -/
theorem Ev.set {k : Nat} {N : Nd} {v : S1} (e : Ev t σ h x) (q : v N (put σ k (some x)) h) : dSeq (dAsg t (gN k)) v N σ h := e _ q
theorem Ev.eq (e : Ev t σ h x) (z : x = y) : Ev t σ h y := z ▸ e
/-- a list that is written down -/
theorem Ev.lst (ht : EvA ta σ h xs) (hl : xs.length ≤ sizeLine) (q : ∀ p, h p = none → Q (.ref p) (up h p (.lst xs))) : dLst ta σ h Q := ht _ ⟨hl, q⟩
end
end DL
namespace DL
open PySem PySem.Spec PyProof.Rows L2
/-! ### classes of the program: instances by the class' name and their fields -/
theorem RoomG.make {k : Nat} {A : Around} (r : RoomG (k + 1) A) (C : Addr) (us : List Value) (kw : List (Str × Value)) : RoomG k (A.under (.builtin "type.__call__" ⟨.ref C :: us, kw⟩)) := ⟨r.r.make C us kw, r.g⟩
theorem RoomG.in1 {k : Nat} {A : Around} (r : RoomG (k + 1) A) : RoomG k A.in1 := ⟨r.r.in1, r.g⟩
section
variable {X : Cx} {k : Nat} {C f g p : Addr} {fd : FuncData} {ps : List Str} {sp : Sp} {E : XK} {m nm : Str}
theorem run_makeG {pins : List (Addr × Obj)} {σ : L2.St} {H : Hp} {s : Shared} {Q : VK} {us : List Value} {vs : List V} (M : Mk X.K C f) (F : FnG X.prog X.w X.K X.mg X.base k f fd ps sp) (hr : RoomG (k + 1) X.A) (hb : L2.Binds X.K fd ps [])
    (hx : Passes CX0 X E) (I : Inv X pins σ H s) (r : Vals vs us)
    (h : ∀ x dx, H x = none → H dx = none → dx ≠ x → sp (.ref x :: vs) (upd (upd H dx (.own x)) x (.ins C dx [])) (fun v H2 => v = .non ∧ Q (.ref x) H2) E) :
    wpAny (model X.prog X.w) X.A (call (.ref C) us) (EP X pins σ Q) X.xe s := by
  have hq := h (s.heap.objs.size + 1) s.heap.objs.size (I.hok.fresh (Nat.le_succ _)) (I.hok.fresh (Nat.le_refl _)) (Nat.ne_of_lt (Nat.lt_succ_self _))
  have I2 := Inv.made (C := C) I
  have r2 : Vals (V.ref (s.heap.objs.size + 1) :: vs) (Value.ref (s.heap.objs.size + 1) :: us) := .cons rfl r
  have hl : (Value.ref (s.heap.objs.size + 1) :: us ++ []).length = ps.length := by
    have e := r2.length
    rw [F.len _ _ _ _ hq] at e
    rw [List.append_nil]; exact e.symm
  have bt := hb _ (Value.ref (s.heap.objs.size + 1) :: us) I2.kIn hl
  rw [List.append_nil] at bt
  refine wpAny_call (make_map (f := f) I.kIn M.makes M.init (beq_iff_eq.mp M.fn) (codeAny_mono (F.run _ X.stack _ _ ⟨Value.ref (s.heap.objs.size + 1) :: us, []⟩ (Value.ref (s.heap.objs.size + 1) :: us) _ _ E (hr.make C us [])
    (I2.env0.make C us []) bt r2 hq) fun r s' hq' => ?_))
  cases r with
  | error e => exact hx pins σ _ _ e s' I2 hq'
  | ok fl =>
    cases fl with
    | ret u =>
      obtain ⟨v, H', I3, rv, ev, q3⟩ := I2.after hq'
      subst ev
      exact ⟨rv, ⟨V.ref (s.heap.objs.size + 1), H', I3, rfl, q3⟩⟩
    | next => exact False.elim hq'
    | brk => exact False.elim hq'
    | cont => exact False.elim hq'
theorem getprop_g {pins : List (Addr × Obj)} {σ : L2.St} {H : Hp} {s : Shared} {Q : VK} {b : Bool} {a dx : Addr} {fs : List (Str × V)} {E' : Value → Shared → Prop} (I : Inv X pins σ H s) (ea : H a = some (.ins C dx fs)) (c : Cls X.K C) (hp : PropOf X.K C nm p g)
    (F : FnG X.prog X.w X.K X.mg X.base k g fd ["self"] sp) (hr : RoomG (k + 1) X.A) (hb : L2.Binds X.K fd ["self"] []) (hx : Passes CX0 X.nox E) (h : sp [.ref a] H Q E) :
    wpAny (model X.prog X.w) X.A (getAttr (.ref a) nm b) (EP X pins σ Q) E' s := by
  obtain ⟨mA, O, _, _, _, _⟩ := ins_get I.hok ea
  obtain ⟨od, J, _⟩ := O.look
  obtain ⟨rest, hrec⟩ := hp.rec_
  have I1 := I.tok (s.toks + 1)
  have hc : (PySem.W.clsIn X.K C).isSome = true := by
    obtain ⟨cd, hc, _⟩ := PySem.W.any_some c.hd
    rw [hc]
    rfl
  have bt := hb { s with toks := s.toks + 1 } [.ref a] I1.kIn rfl
  rw [List.append_nil] at bt
  refine PySem.W.get_bind I.kIn J (PySem.W.plainGet_of (c.get nm)).1 (PySem.W.findObj_data hc hp.at_ hp.get hp.tak) (PySem.W.plainGet_of (c.get nm)).2 (wpAny_call (PySem.W.prop_get (s := { s with toks := s.toks + 1 }) I.kIn hrec ?_))
  refine codeAny_mono (F.run X.A.in1 X.stack { s with toks := s.toks + 1 } H ⟨[.ref a], []⟩ [.ref a] [.ref a] Q E hr.in1 I1.env0.in1 bt (.cons rfl .nil) h) fun r s' hq => ?_
  cases r with
  | error er => exact False.elim (hx pins σ H { s with toks := s.toks + 1 } er s' (I1.wish _) hq)
  | ok fl =>
    cases fl with
    | ret u =>
      obtain ⟨v, H', I3, rv, q3⟩ := I1.after hq
      show wpAny _ _ (handedOut u) _ _ _
      rw [PySem.W.handedOut_of (handed_of rv)]
      exact wpAny_pure ⟨v, H', I3, rv, q3⟩
    | next => exact False.elim hq
    | brk => exact False.elim hq
    | cont => exact False.elim hq
end
/-! facts of classes -/
/-- a field of a class' instances: no attribute of the class -/
structure FldF (K : PySem.W.Frag) (mg : Str → Option Value) (n f : Str) : Prop where
  ex : ∃ C, mg n = some (.ref C) ∧ Cls K C ∧ NoAttr K C f
structure PropG (P : Program) (w : World) (K : PySem.W.Frag) (mg : Str → Option Value) (base : Heap) (k : Nat) (n f : Str) (sp : P1) : Prop where
  ex : ∃ C p g fd, mg n = some (.ref C) ∧ Cls K C ∧ PropOf K C f p g ∧ FnG P w K mg base k g fd ["self"] (lowP ⟨K, w, mg⟩ sp) ∧ L2.Binds K fd ["self"] []
structure MethG (P : Program) (w : World) (K : PySem.W.Frag) (mg : Str → Option Value) (base : Heap) (k : Nat) (n m : Str) (sp : P1) : Prop where
  ex : ∃ C f fd ps, mg n = some (.ref C) ∧ Cls K C ∧ Meth K C m f ∧ FnG P w K mg base k f fd ps (lowP ⟨K, w, mg⟩ sp) ∧ L2.Binds K fd ps []
structure MakeG (P : Program) (w : World) (K : PySem.W.Frag) (mg : Str → Option Value) (base : Heap) (k : Nat) (n : Str) (sp : P1) : Prop where
  ex : ∃ C f fd ps, mg n = some (.ref C) ∧ Mk K C f ∧ FnG P w K mg base k f fd ps (lowP ⟨K, w, mg⟩ sp) ∧ L2.Binds K fd ps []
section
variable {P : Program} {w : World} {K : PySem.W.Frag} {mg : Str → Option Value} {base : Heap} {j k : Nat} {n m f : Str} {sp : P1}
theorem PropG.mono (G : PropG P w K mg base j n f sp) (h : j ≤ k) : PropG P w K mg base k n f sp := let ⟨C, p, g, fd, a, b, c, d, e⟩ := G.ex; ⟨C, p, g, fd, a, b, c, d.mono h, e⟩
theorem MethG.mono (G : MethG P w K mg base j n m sp) (h : j ≤ k) : MethG P w K mg base k n m sp := let ⟨C, p, g, ps, a, b, c, d, e⟩ := G.ex; ⟨C, p, g, ps, a, b, c, d.mono h, e⟩
theorem MakeG.mono (G : MakeG P w K mg base j n sp) (h : j ≤ k) : MakeG P w K mg base k n sp := let ⟨C, p, g, ps, a, b, d, e⟩ := G.ex; ⟨C, p, g, ps, a, b, d.mono h, e⟩
end
/-! readings -/
def putD : Str → D → List (Str × D) → List (Str × D)
  | f, y, [] => [(f, y)]
  | f, y, (g, x) :: r => if g = f then (g, y) :: r else (g, x) :: putD f y r
def attrD (f : Str) (ns : List Str) (ps : List (Str × P1)) (x : D) (h : MH) (Q : KD) : Prop := ∃ a n fs, x = .ref a ∧ h a = some (.ins n fs) ∧ ((n ∈ ns ∧ ∃ d, fs.lookup f = some d ∧ Q d h) ∨ ∃ sp, (n, sp) ∈ ps ∧ sp [.ref a] h Q)
def dAsgF (f : Str) (ns : List Str) (to tv : E1) : S1 := fun D σ h => tv σ h fun y h1 => to σ h1 fun x h2 => ∃ a n fs, x = .ref a ∧ h2 a = some (.ins n fs) ∧ n ∈ ns ∧ fs.length < 1000 ∧ D.nx σ (up h2 a (.ins n (putD f y fs)))
def dMake (n : Str) (sp : P1) (t : A1) : E1 := fun σ h Q => t σ h fun ds h1 => ∀ x, h1 x = none → sp (.ref x :: ds) (up h1 x (.ins n [])) fun v h2 => v = .none ∧ Q (.ref x) h2
def dMeth (m : Str) (es : List (Str × P1)) (to : E1) (t : A1) : E1 := fun σ h Q => to σ h fun x h1 => ∃ a n fs sp, x = .ref a ∧ h1 a = some (.ins n fs) ∧ fs.lookup m = none ∧ (n, sp) ∈ es ∧ t σ h1 fun ds h2 => sp (x :: ds) h2 Q
section
variable {K : KW} {H : Hp}
theorem fs_look {fs : List (Str × D)} {vs : List (Str × V)} {f : Str} (r : RepFs K H fs vs) : RO (RepV K H) (fs.lookup f) (vs.lookup f) := by
  induction r with
  | nil => exact True.intro
  | @cons p q _ _ h _ ih =>
    obtain ⟨a, x⟩ := p
    obtain ⟨b, y⟩ := q
    obtain ⟨e, rv⟩ := h
    simp only at e rv
    subst e
    rw [List.lookup_cons, List.lookup_cons]
    cases f == a with
    | true => exact rv
    | false => exact ih
theorem fs_put {fs : List (Str × D)} {vs : List (Str × V)} {f : Str} {d : D} {v : V} (rv : RepV K H d v) (r : RepFs K H fs vs) : RepFs K H (putD f d fs) (putF f v vs) := by
  induction r with
  | nil => exact .cons ⟨rfl, rv⟩ .nil
  | @cons p q ps qs h t ih =>
    obtain ⟨a, x⟩ := p
    obtain ⟨b, y⟩ := q
    obtain ⟨e, ry⟩ := h
    simp only at e ry
    subst e
    unfold putD putF
    by_cases z : a = f
    · rw [if_pos z, if_pos z]; exact .cons ⟨rfl, rv⟩ t
    · rw [if_neg z, if_neg z]; exact .cons ⟨rfl, ry⟩ ih
theorem fs_mono {H' : Hp} {fs : List (Str × D)} {vs : List (Str × V)} (m : Mo K H H') (r : RepFs K H fs vs) : RepFs K H' fs vs := P2.mono (fun _ _ z => ⟨z.1, RepV.mono m _ z.2⟩) r
end
section
variable {X : Cx} {k : Nat} {e o value : Expr} {f m : Str} {pos pos' apos : Pos} {t to tv : E1} {ta : A1} {ns : List Str} {n : Str} {qs : List (Str × P1)} {sp : P1} {es : List Expr}
theorem de_attr (he : DE X e t) (hb : attributeBase e f X.env (eval e X.env) = eval e X.env) (hF : ∀ n ∈ ns, FldF X.K X.mg n f) (hP : ∀ q ∈ qs, PropG X.prog X.w X.K X.mg X.base k q.1 f q.2) (hr : RoomG (k + 1) X.A) :
    DE X (.Attribute e f pos) (dUn (attrD f ns qs) t) := by
  refine ⟨fun pins s σV H QV I ⟨σ, h, Q, hE, hH, ht, hc⟩ => ?_⟩
  refine attr_of hb (thn (he.run pins s σV H (fun v H1 => ∃ d h1, Stp h H h1 H1 ∧ RepH X.kw h1 H1 ∧ RepV X.kw H1 d v ∧ attrD f ns qs d h1 Q) I ⟨σ, h, _, hE, hH, ht, fun d h1 v H1 s1 hH1 rv q => ⟨d, h1, s1, hH1, rv, q⟩⟩) fun u s1 ⟨x, H1, I1, rx, d, h1, st, hH1, rv, a, n, fs, ed, ea, q⟩ => ?_)
  subst ed
  cases (show x = .ref a from rv)
  obtain rfl : u = Value.ref a := rx
  obtain ⟨C, dx, vs, em, eH, rf⟩ := hH1 a _ ea
  have em : X.mg n = some (.ref C) := em
  rcases q with ⟨hn, d, ed, q⟩ | ⟨sp, hn, q⟩
  · obtain ⟨C', em', c, no⟩ := (hF n hn).ex
    rw [em] at em'
    cases em'
    obtain ⟨v, ev, rv⟩ := (fs_look (f := f) rf).some_ ed
    exact getattr_ok I1 eH c no ev fun u' s2 I2 ru => ⟨v, H1, I2, ru, hc d h1 v H1 st hH1 rv q⟩
  · obtain ⟨C', p, g, fd, em', c, hp, F, b⟩ := (hP (n, sp) hn).ex
    rw [em] at em'
    cases em'
    exact getprop_g I1 eH c hp F hr b pass0 (show lowC X.kw sp [.ref a] H1 QV from ⟨[.ref a], h1, Q, ⟨_, _, rfl, rfl, rfl⟩, hH1, q, hc.step st⟩)
theorem de_fldO (he : DE X e t) (hb : attributeBase e f X.env (eval e X.env) = eval e X.env) (hF : ∀ n ∈ ns, FldF X.K X.mg n f) : DE X (.Attribute e f pos) (dUn (attrD f ns []) t) := by
  refine ⟨fun pins s σV H QV I ⟨σ, h, Q, hE, hH, ht, hc⟩ => ?_⟩
  refine attr_of hb (thn (he.run pins s σV H (fun v H1 => ∃ d h1, Stp h H h1 H1 ∧ RepH X.kw h1 H1 ∧ RepV X.kw H1 d v ∧ attrD f ns [] d h1 Q) I ⟨σ, h, _, hE, hH, ht, fun d h1 v H1 s1 hH1 rv q => ⟨d, h1, s1, hH1, rv, q⟩⟩) fun u s1 ⟨x, H1, I1, rx, d, h1, st, hH1, rv, a, n, fs, ed, ea, q⟩ => ?_)
  subst ed
  cases (show x = .ref a from rv)
  obtain rfl : u = Value.ref a := rx
  obtain ⟨C, dx, vs, em, eH, rf⟩ := hH1 a _ ea
  have em : X.mg n = some (.ref C) := em
  rcases q with ⟨hn, d, ed, q⟩ | ⟨sp, hn, q⟩
  · obtain ⟨C', em', c, no⟩ := (hF n hn).ex
    rw [em] at em'
    cases em'
    obtain ⟨v, ev, rv⟩ := (fs_look (f := f) rf).some_ ed
    exact getattr_ok I1 eH c no ev fun u' s2 I2 ru => ⟨v, H1, I2, ru, hc d h1 v H1 st hH1 rv q⟩
  · cases hn
theorem ds_fld (ho : DE X o to) (hv : DE X value tv) (hF : ∀ n ∈ ns, FldF X.K X.mg n f) (hs : swapsWith value (some (.Attribute o f pos')) pos.line X.env = pure false) : DS X (.Assign [.Attribute o f pos'] value pos) (dAsgF f ns to tv) := by
  refine ⟨fun pins s σV H DV I ⟨D, σ, h, hE, hH, ht, hc⟩ => ?_⟩
  refine plainObj_wpAny_Assign_Attribute (thn (hv.run pins s σV H (fun v H1 => ∃ y h1, Stp h H h1 H1 ∧ RepH X.kw h1 H1 ∧ RepV X.kw H1 y v ∧ to σ h1 fun x h2 => ∃ a n fs, x = .ref a ∧ h2 a = some (.ins n fs) ∧ n ∈ ns ∧ fs.length < 1000 ∧ D.nx σ (up h2 a (.ins n (putD f y fs)))) I
    ⟨σ, h, _, hE, hH, ht, fun d h1 v H1 s1 hH1 rv q => ⟨d, h1, s1, hH1, rv, q⟩⟩) fun u s1 ⟨yv, H1, I1, ry, y, h1, st1, hH1, rvy, q⟩ => ?_) hs
  have hE1 := hE.mono (Stp.mo hH st1)
  refine thn (ho.run pins s1 σV H1 (fun v H2 => ∃ d h2, Stp h1 H1 h2 H2 ∧ RepH X.kw h2 H2 ∧ RepV X.kw H2 d v ∧ ∃ a n fs, d = .ref a ∧ h2 a = some (.ins n fs) ∧ n ∈ ns ∧ fs.length < 1000 ∧ D.nx σ (up h2 a (.ins n (putD f y fs)))) I1
    ⟨σ, h1, _, hE1, hH1, q, fun d h2 v H2 s2 hH2 rv q => ⟨d, h2, s2, hH2, rv, q⟩⟩) fun ov s2 ⟨x, H2, I2, rx, d, h2, st2, hH2, rv, a, n, fs, ed, ea, hn, hl, q2⟩ => ?_
  subst ed
  cases (show x = .ref a from rv)
  obtain rfl : ov = Value.ref a := rx
  obtain ⟨C, dx, vs, em, eH, rf⟩ := hH2 a _ ea
  have em : X.mg n = some (.ref C) := em
  obtain ⟨C', em', c, no⟩ := (hF n hn).ex
  rw [em] at em'
  cases em'
  have m2 := Stp.mo hH1 st2
  have rvy2 := RepV.mono m2 _ rvy
  refine setattr_ok I2 eH c no (by rw [← Paired.length rf]; exact hl) ry fun s3 I3 => ?_
  have w : Stp h2 H2 (up h2 a (.ins n (putD f y fs))) (upd H2 a (.ins C dx (putF f yv vs))) := Stp.write ea
  have m3 := Stp.mo hH2 w
  have hH3 : RepH X.kw (up h2 a (.ins n (putD f y fs))) (upd H2 a (.ins C dx (putF f yv vs))) := hH2.writeO ea ⟨C, dx, _, em, upd_same, fs_mono m3 (fs_put rvy2 rf)⟩
  refine ⟨_, _, I3, hc.nx σ (up h2 a (.ins n (putD f y fs))) σV _ ((st1.trans st2).trans w) ((hE1.mono m2).mono m3) hH3 q2⟩
theorem de_meth {pl : Sem Bool} (he : DE X o to) (hM : ∀ q ∈ qs, MethG X.prog X.w X.K X.mg X.base k q.1 m q.2) (hr : RoomG k X.A) (ha : DA X (e :: es) ta)
    (hst : starEach (e :: es) X.env = (false, eval e X.env) :: starEach es X.env := by rfl) (hpl : (backTo pos (starEach es X.env)).any (·.1) = false := by rfl)
    (ht : eval (.Call (.Attribute o m apos) (e :: es) [] pos) X.env = (do
      let ov ← eval o X.env
      standAt apos.atName
      let (f, first) ← holding [ov] (getMethod ov m pl)
      callWith pos f first (backTo pos (starEach (e :: es) X.env)) (backToKw pos (keywordEach [] X.env))) := by rfl) :
    DE X (.Call (.Attribute o m apos) (e :: es) [] pos) (dMeth m qs to ta) := by
  refine ⟨fun pins s σV H QV I ⟨σ, h, Q, hE, hH, ht', hc⟩ => ?_⟩
  refine PySem.W.methodCall_KW (pl := pl) (thn (he.run pins s σV H (fun v H1 => ∃ d h1, Stp h H h1 H1 ∧ RepH X.kw h1 H1 ∧ RepV X.kw H1 d v ∧ ∃ a n fs sp, d = .ref a ∧ h1 a = some (.ins n fs) ∧ fs.lookup m = none ∧ (n, sp) ∈ qs ∧ ta σ h1 fun ds h2 => sp (d :: ds) h2 Q) I
    ⟨σ, h, _, hE, hH, ht', fun d h1 v H1 s1 hH1 rv q => ⟨d, h1, s1, hH1, rv, q⟩⟩) fun u s1 ⟨x, H1, I1, rx, d, h1, st, hH1, rv, a, n, fs, sp, ed, ea, l, hn, q⟩ => ?_) ht
  subst ed
  cases (show x = .ref a from rv)
  obtain rfl : u = Value.ref a := rx
  obtain ⟨C, dx, vs, em, eH, rf⟩ := hH1 a _ ea
  have em : X.mg n = some (.ref C) := em
  obtain ⟨C', f, fd, ps, em', c, hm, F, b⟩ := (hM (n, sp) hn).ex
  rw [em] at em'
  cases em'
  have ln : vs.lookup m = none := by
    have := (fs_look (f := m) rf).isSome
    rw [l] at this
    cases z : vs.lookup m with
    | none => rfl
    | some y => rw [z] at this; cases this
  refine getmeth_ok I1 eH c hm ln ?_
  refine PySem.W.callWith_K (first := [.ref a]) (h₀ := X.base) I1.ok.mod.kin hm.kp (thn (ha.run pos pins s1 σV H1 (fun ws H2 => ∃ ds h2, Stp h1 H1 h2 H2 ∧ RepH X.kw h2 H2 ∧ RepVs X.kw H2 ds ws ∧ sp (.ref a :: ds) h2 Q) I1
    ⟨σ, h1, _, hE.mono (Stp.mo hH st), hH1, q, fun ds h2 ws H2 s2 hH2 rvs q => ⟨ds, h2, s2, hH2, rvs, q⟩⟩) fun us s2 ⟨ws, H2, I2, r, ds, h2, st2, hH2, rvs, q2⟩ => ⟨I2.kIn, ?_⟩) hst hpl
  exact run_g (us := .ref a :: us) (vs := .ref a :: ws) F hr b pass0 I2 (.cons rfl r) (show lowC X.kw sp (.ref a :: ws) H2 QV from ⟨.ref a :: ds, h2, Q, ⟨_, _, rfl, rfl, rvs⟩, hH2, q2, hc.step (st.trans st2)⟩)
theorem de_meth0 {pl : Sem Bool} (he : DE X o to) (hM : ∀ q ∈ qs, MethG X.prog X.w X.K X.mg X.base k q.1 m q.2) (hr : RoomG k X.A)
    (ht : eval (.Call (.Attribute o m apos) [] [] pos) X.env = (do
      let ov ← eval o X.env
      standAt apos.atName
      let (f, first) ← holding [ov] (getMethod ov m pl)
      callWith pos f first (backTo pos (starEach [] X.env)) (backToKw pos (keywordEach [] X.env))) := by rfl) :
    DE X (.Call (.Attribute o m apos) [] [] pos) (dMeth m qs to dNil) := by
  refine ⟨fun pins s σV H QV I ⟨σ, h, Q, hE, hH, ht', hc⟩ => ?_⟩
  refine PySem.W.methodCall_KW (pl := pl) (thn (he.run pins s σV H (fun v H1 => ∃ d h1, Stp h H h1 H1 ∧ RepH X.kw h1 H1 ∧ RepV X.kw H1 d v ∧ ∃ a n fs sp, d = .ref a ∧ h1 a = some (.ins n fs) ∧ fs.lookup m = none ∧ (n, sp) ∈ qs ∧ dNil σ h1 fun ds h2 => sp (d :: ds) h2 Q) I
    ⟨σ, h, _, hE, hH, ht', fun d h1 v H1 s1 hH1 rv q => ⟨d, h1, s1, hH1, rv, q⟩⟩) fun u s1 ⟨x, H1, I1, rx, d, h1, st, hH1, rv, a, n, fs, sp, ed, ea, l, hn, q⟩ => ?_) ht
  subst ed
  cases (show x = .ref a from rv)
  obtain rfl : u = Value.ref a := rx
  obtain ⟨C, dx, vs, em, eH, rf⟩ := hH1 a _ ea
  have em : X.mg n = some (.ref C) := em
  obtain ⟨C', f, fd, ps, em', c, hm, F, b⟩ := (hM (n, sp) hn).ex
  rw [em] at em'
  cases em'
  have ln : vs.lookup m = none := by
    have := (fs_look (f := m) rf).isSome
    rw [l] at this
    cases z : vs.lookup m with
    | none => rfl
    | some y => rw [z] at this; cases this
  refine getmeth_ok I1 eH c hm ln ?_
  exact PySem.W.callWith_K0 (first := [.ref a]) I1.kIn hm.kp (run_g (us := [.ref a]) (vs := [.ref a]) F hr b pass0 I1 (.cons rfl .nil) (show lowC X.kw sp [.ref a] H1 QV from ⟨[.ref a], h1, Q, ⟨_, _, rfl, rfl, rfl⟩, hH1, q, hc.step st⟩))
theorem made_low {C x dx : Addr} {h h1 : MH} {H H1 : Hp} {Q : KD} {QV : VK} {ds : List D} {vs : List V} (em : X.mg n = some (.ref C)) (st : Stp h H h1 H1) (hH1 : RepH X.kw h1 H1) (rv : RepVs X.kw H1 ds vs) (nx : H1 x = none) (ndx : H1 dx = none) (ne : dx ≠ x)
    (q : ∀ x, h1 x = none → sp (.ref x :: ds) (up h1 x (.ins n [])) fun v h2 => v = .none ∧ Q (.ref x) h2) (hc : Cl X.kw h H Q QV) :
    lowC X.kw sp (.ref x :: vs) (L2.upd (L2.upd H1 dx (.own x)) x (.ins C dx [])) (fun v H2 => v = .non ∧ QV (.ref x) H2) := by
  have s1 : Stp h1 H1 h1 (L2.upd H1 dx (.own x)) := Stp.hide ndx
  have r1 : RepH X.kw h1 (L2.upd H1 dx (.own x)) := hH1.hide ndx
  have nx1 : (L2.upd H1 dx (.own x)) x = none := by rw [upd_ne ne.symm]; exact nx
  have s2 : Stp h1 (L2.upd H1 dx (.own x)) (up h1 x (.ins n [])) (L2.upd (L2.upd H1 dx (.own x)) x (.ins C dx [])) := Stp.new nx1
  have r2 : RepH X.kw (up h1 x (.ins n [])) (L2.upd (L2.upd H1 dx (.own x)) x (.ins C dx [])) := r1.newO nx1 ⟨C, dx, [], em, upd_same, .nil⟩
  have m := (Stp.mo hH1 s1).trans (Stp.mo r1 s2)
  refine ⟨.ref x :: ds, _, _, ⟨_, _, rfl, rfl, RepVs.mono m _ rv⟩, r2, q x (hH1.nofresh nx), fun d h' v H' st' hH' rv' ⟨ed, q'⟩ => ?_⟩
  subst ed
  exact ⟨rv', hc (.ref x) h' (.ref x) H' (((st.trans s1).trans s2).trans st') hH' rfl q'⟩
theorem de_make {p : Pos} (M : MakeG X.prog X.w X.K X.mg X.base k n sp) (hr : RoomG (k + 1) X.A) (hg : Gl X n) (ha : DA X (e :: es) ta) (hdb : (n == ("__debug__" : Str)) = false := by decide) (he : starEach (e :: es) X.env = (false, eval e X.env) :: starEach es X.env := by rfl) (hpl : (backTo pos (starEach es X.env)).any (·.1) = false := by rfl) :
    DE X (.Call (.Name n p) (e :: es) [] pos) (dMake n sp ta) := by
  obtain ⟨C, f, fd, ps, em, mk, F, b⟩ := M.ex
  refine ⟨fun pins s σV H QV I ⟨σ, h, Q, hE, hH, ht, hc⟩ => ?_⟩
  refine wpAny_Call_Name_kw (ld_glob I hg em ?_ hdb)
  refine PySem.W.callWith_K (h₀ := X.base) I.ok.mod.kin mk.kp (thn (ha.run pos pins s σV H (fun ws H1 => ∃ ds h1, Stp h H h1 H1 ∧ RepH X.kw h1 H1 ∧ RepVs X.kw H1 ds ws ∧ ∀ x, h1 x = none → sp (.ref x :: ds) (up h1 x (.ins n [])) fun v h2 => v = .none ∧ Q (.ref x) h2) I
    ⟨σ, h, _, hE, hH, ht, fun ds h1 ws H1 s1 hH1 rvs q => ⟨ds, h1, s1, hH1, rvs, q⟩⟩) fun us s1 ⟨ws, H1, I1, r, ds, h1, st, hH1, rvs, q⟩ => ⟨I1.kIn, ?_⟩) he hpl
  exact run_makeG mk F hr b pass0 I1 r fun x dx nx ndx ne => made_low em st hH1 rvs nx ndx ne q hc
theorem de_make0 {p : Pos} (M : MakeG X.prog X.w X.K X.mg X.base k n sp) (hr : RoomG (k + 1) X.A) (hg : Gl X n) (hdb : (n == ("__debug__" : Str)) = false := by decide) :
    DE X (.Call (.Name n p) [] [] pos) (dMake n sp dNil) := by
  obtain ⟨C, f, fd, ps, em, mk, F, b⟩ := M.ex
  refine ⟨fun pins s σV H QV I ⟨σ, h, Q, hE, hH, ht, hc⟩ => ?_⟩
  refine wpAny_Call_Name_kw (ld_glob I hg em ?_ hdb)
  exact PySem.W.callWith_K0 I.kIn mk.kp (run_makeG (us := []) mk F hr b pass0 I .nil fun x dx nx ndx ne => made_low (ds := []) em Stp.refl hH rfl nx ndx ne ht hc)
theorem hf_nil {K : PySem.W.Frag} {mg : Str → Option Value} {f : Str} : ∀ n ∈ ([] : List Str), FldF K mg n f := fun _ h => nomatch h
theorem hf_cons {K : PySem.W.Frag} {mg : Str → Option Value} {f n : Str} {ns : List Str} (h : FldF K mg n f) (t : ∀ n ∈ ns, FldF K mg n f) : ∀ m ∈ n :: ns, FldF K mg m f := fun m hm => by
  rcases List.mem_cons.mp hm with rfl | hm
  · exact h
  · exact t m hm
theorem hp_nil {P : Program} {w : World} {K : PySem.W.Frag} {mg : Str → Option Value} {base : Heap} {k : Nat} {f : Str} : ∀ q ∈ ([] : List (Str × P1)), PropG P w K mg base k q.1 f q.2 := fun _ h => nomatch h
theorem hp_cons {P : Program} {w : World} {K : PySem.W.Frag} {mg : Str → Option Value} {base : Heap} {k : Nat} {n f : Str} {sp : P1} {qs : List (Str × P1)} (h : PropG P w K mg base k n f sp) (t : ∀ q ∈ qs, PropG P w K mg base k q.1 f q.2) : ∀ q ∈ (n, sp) :: qs, PropG P w K mg base k q.1 f q.2 := fun q hq => by
  rcases List.mem_cons.mp hq with rfl | hq
  · exact h
  · exact t q hq
theorem hm_nil {P : Program} {w : World} {K : PySem.W.Frag} {mg : Str → Option Value} {base : Heap} {k : Nat} {m : Str} : ∀ q ∈ ([] : List (Str × P1)), MethG P w K mg base k q.1 m q.2 := fun _ h => nomatch h
theorem hm_cons {P : Program} {w : World} {K : PySem.W.Frag} {mg : Str → Option Value} {base : Heap} {k : Nat} {n m : Str} {sp : P1} {qs : List (Str × P1)} (h : MethG P w K mg base k n m sp) (t : ∀ q ∈ qs, MethG P w K mg base k q.1 m q.2) : ∀ q ∈ (n, sp) :: qs, MethG P w K mg base k q.1 m q.2 := fun q hq => by
  rcases List.mem_cons.mp hq with rfl | hq
  · exact h
  · exact t q hq
def dDead : S1 := fun _ _ _ => False
def dDeadE : E1 := fun _ _ _ => False
/-- what is never come to needs no rule -/
theorem de_dead {e : Expr} : DE X e dDeadE := ⟨fun _ _ _ _ _ _ ⟨_, _, _, _, _, z, _⟩ => z.elim⟩
theorem ds_dead {s : Stmt} : DL.DS X s dDead := ⟨fun _ _ _ _ _ _ ⟨_, _, _, _, _, z, _⟩ => z.elim⟩
end
end DL
namespace DL
open PySem PySem.Spec PyProof.Rows L2
local macro_rules | `(tactic| walk_at "ev") => `(tactic| try simp only [e_seq, e_next, e_brk, e_cnt, e_drop, e_ret, e_retN, e_ifS, e_asg, e_gN, e_gSb, e_gTp, e_gCn, e_gNl, e_var, e_varK, e_nth0, e_nthS, e_put0, e_putS, e_c, e_op, e_un, e_call, e_nil, e_cons, e_tup, e_lst, e_test, e_asB, e_tru, e_andT, e_orT, e_notT, e_andV, e_orV, e_notV, e_if, e_aug, e_augS, e_sl, e_part, e_partK, e_noPart, e_bm0, e_bm, e_join, e_yes, e_wipe0, e_wipeS, e_lc, e_for, v_add, v_addS, v_addT, v_iadd, v_sub, v_mul, v_fdiv, v_mod, v_pow, v_shl, v_shr, v_neg, v_lt, v_le, v_gt, v_ge, v_eqI, v_neI, v_eqS, v_neS, v_inS, v_ninS, v_inT, v_ninT, v_inR, v_ninR, v_inSeq, v_seqO, v_seqR, v_seqT, v_seqL, v_ixR, v_ixT, v_ixL, v_ixS, v_atK, v_atSK, v_get, v_getL, v_getK, v_set, v_setL, v_setK, v_on1, v_on2, v_lenR, v_lenT, v_lenL, v_lenS, v_seqK, v_tuple, v_list, v_abs, v_intI, v_intB, v_okL, v_isLst, v_app, v_lstK, v_slS, v_slT, v_join, v_is, v_isnot, v_max, v_min, v_iSeq, v_srcT, v_srcL, v_srcS, v_srcR, v_srcO, v_iRg1, v_rg1, v_truN, v_truB, v_truI, v_truS, v_truR, v_truT, v_truRol, v_truL, v_inRol, v_ninRol, v_inO, v_inOd, v_inDic, v_ixO, v_ixOd, v_ixSeq, v_ixDic, v_dgetK, v_ixStr, v_getO, v_getOd, v_setO, v_setOd, v_setDic, v_lenO, v_lenOd, e_dic0, e_disp, e_pairs0, e_pairsS, e_chain, v_bits, v_iRg3, v_rg3, v_iRg2, v_rg2, v_iEn, v_enT, v_enR, v_enO, v_iZp, v_zpT, v_zpR, v_zpO, v_repr, v_strI, v_strS, v_addR, v_and, v_slR, v_slL, v_ltS, v_srtT, v_srtR, v_srtO, v_srtD, v_revR, v_revT, v_isB, v_iZs, v_zsT, e_split, v_split, v_words, v_index, v_eqIS, v_neIS, v_eqB, v_neB])
local macro_rules | `(tactic| walk_at "e0") => `(tactic| try simp only [e_seq, e_brk, e_cnt, e_drop, e_ret, e_retN, e_ifS, e_asg, e_gN, e_gSb, e_gTp, e_gCn, e_gNl, e_var, e_varK, e_nth0, e_nthS, e_put0, e_putS, e_c, e_op, e_un, e_call, e_nil, e_cons, e_tup, e_lst, e_test, e_asB, e_tru, e_andT, e_orT, e_notT, e_andV, e_orV, e_notV, e_if, e_aug, e_augS, e_sl, e_part, e_partK, e_noPart, e_bm0, e_bm, e_join, e_yes, e_wipe0, e_wipeS, e_lc, e_for, v_add, v_addS, v_addT, v_iadd, v_sub, v_mul, v_fdiv, v_mod, v_pow, v_shl, v_shr, v_neg, v_lt, v_le, v_gt, v_ge, v_eqI, v_neI, v_eqS, v_neS, v_inS, v_ninS, v_inT, v_ninT, v_inR, v_ninR, v_inSeq, v_seqO, v_seqR, v_seqT, v_seqL, v_ixR, v_ixT, v_ixL, v_ixS, v_atK, v_atSK, v_get, v_getL, v_getK, v_set, v_setL, v_setK, v_on1, v_on2, v_lenR, v_lenT, v_lenL, v_lenS, v_seqK, v_tuple, v_list, v_abs, v_intI, v_intB, v_okL, v_isLst, v_app, v_lstK, v_slS, v_slT, v_join, v_is, v_isnot, v_max, v_min, v_iSeq, v_srcT, v_srcL, v_srcS, v_srcR, v_srcO, v_iRg1, v_rg1, v_truN, v_truB, v_truI, v_truS, v_truR, v_truT, v_truRol, v_truL, v_inRol, v_ninRol, v_inO, v_inOd, v_inDic, v_ixO, v_ixOd, v_ixSeq, v_ixDic, v_dgetK, v_ixStr, v_getO, v_getOd, v_setO, v_setOd, v_setDic, v_lenO, v_lenOd, e_dic0, e_disp, e_pairs0, e_pairsS, e_chain, v_bits, v_iRg3, v_rg3, v_iRg2, v_rg2, v_iEn, v_enT, v_enR, v_enO, v_iZp, v_zpT, v_zpR, v_zpO, v_repr, v_strI, v_strS, v_addR, v_and, v_slR, v_slL, v_ltS, v_srtT, v_srtR, v_srtO, v_srtD, v_revR, v_revT, v_isB, v_iZs, v_zsT, v_eqIS, v_neIS, v_eqB, v_neB])
/-! what a def that draws nothing has laid -/
structure OV (h hh : MH) (ws : List (Addr × MO)) : Prop where
  ext : le h hh
  at_ : ∀ p ∈ ws, hh p.1 = some p.2
  fr : ∀ p ∈ ws, h p.1 = none
  nd : (ws.map (·.1)).Nodup
section
variable {h hh : MH} {p l : Addr} {ws : List (Addr × MO)} {o x y : MO} {Q : KD}
theorem OV.start : OV h h [] := ⟨le.refl, by simp, by simp, by simp⟩
theorem OV.old (L : OV h hh ws) {b : Addr} {u : MO} (e : h b = some u) : hh b = some u := L.ext b u e
theorem OV.mem (L : OV h hh ws) (m : (l, x) ∈ ws) : hh l = some x := L.at_ _ m
theorem OV.get (L : OV h hh ws) (i : Nat) (e : ws[i]? = some (l, x)) : hh l = some x := L.at_ _ (List.mem_of_getElem? e)
theorem OV.fresh (L : OV h hh ws) (n : hh p = none) : h p = none := by
  cases q : h p with
  | none => rfl
  | some u => rw [L.ext p u q] at n; cases n
theorem OV.new (L : OV h hh ws) (n : hh p = none) (x : MO) : OV h (up hh p x) ((p, x) :: ws) := by
  refine ⟨L.ext.trans (le.up n), fun q hq => ?_, fun q hq => ?_, ?_⟩
  · rcases List.mem_cons.mp hq with rfl | hq
    · exact up_same
    · rw [up_ne (nef (L.at_ q hq) n)]; exact L.at_ q hq
  · rcases List.mem_cons.mp hq with rfl | hq
    · exact L.fresh n
    · exact L.fr q hq
  · rw [List.map_cons, List.nodup_cons]
    refine ⟨fun hm => ?_, L.nd⟩
    obtain ⟨q, hq, e⟩ := List.mem_map.mp hm
    have := L.at_ q hq
    rw [e, n] at this; cases this
theorem OV.newE (L : OV h hh ws) {h1 : MH} (n : hh p = none) (e : up hh p x = h1) : OV h h1 ((p, x) :: ws) := e ▸ L.new n x
theorem OV.set (L : OV h hh ws) (i : Nat) (e : ws[i]? = some (l, x)) (y : MO) : OV h (up hh l y) (ws.set i (l, y)) := by
  have m := List.mem_of_getElem? e
  have hl : h l = none := L.fr _ m
  have hi := (List.getElem?_eq_some_iff.mp e).1
  have emap : (ws.set i (l, y)).map (·.1) = ws.map (·.1) := by
    rw [List.map_set]
    refine List.ext_getElem? fun j => ?_
    by_cases z : j = i
    · subst z
      rw [List.getElem?_set_self (by rw [List.length_map]; exact hi), List.getElem?_map, e]; rfl
    · rw [List.getElem?_set_ne (Ne.symm z)]
  refine ⟨fun b u q => ?_, fun q hq => ?_, fun q hq => ?_, by rw [emap]; exact L.nd⟩
  · rw [up_ne (fun z => by rw [z, hl] at q; cases q)]; exact L.ext b u q
  · obtain ⟨j, hj⟩ := List.getElem?_of_mem hq
    by_cases z : j = i
    · subst z
      rw [List.getElem?_set_self hi] at hj
      cases hj
      exact up_same
    · rw [List.getElem?_set_ne (Ne.symm z)] at hj
      have ql : q.1 ≠ l := fun w => by
        have n1 := L.nd
        have e1 : (ws.map (·.1))[j]? = some l := by rw [List.getElem?_map, hj, ← w]; rfl
        have e2 : (ws.map (·.1))[i]? = some l := by rw [List.getElem?_map, e]; rfl
        obtain ⟨a1, b1⟩ := List.getElem?_eq_some_iff.mp e1
        obtain ⟨a2, b2⟩ := List.getElem?_eq_some_iff.mp e2
        exact z ((List.getElem_inj n1).mp (b1.trans b2.symm))
      rw [up_ne ql]; exact L.at_ q (List.mem_of_getElem? hj)
  · obtain ⟨j, hj⟩ := List.getElem?_of_mem hq
    by_cases z : j = i
    · subst z
      rw [List.getElem?_set_self hi] at hj
      cases hj
      exact hl
    · rw [List.getElem?_set_ne (Ne.symm z)] at hj
      exact L.fr q (List.mem_of_getElem? hj)
theorem OV.sub (L : OV h hh ws) {vs : List (Addr × MO)} (s : vs.Sublist ws) : OV h hh vs := ⟨L.ext, fun p hp => L.at_ p (s.subset hp), fun p hp => L.fr p (s.subset hp), (s.map _).nodup L.nd⟩
theorem OV.tl {w : Addr × MO} (L : OV h hh (w :: ws)) : OV h hh ws := L.sub (List.sublist_cons_self w ws)
theorem OV.kp {w v : Addr × MO} (L : OV h hh (w :: v :: ws)) : OV h hh (w :: ws) := L.sub ((List.sublist_cons_self v ws).cons_cons w)
theorem OV.perm (L : OV h hh ws) {vs : List (Addr × MO)} (p : ws.Perm vs) : OV h hh vs := ⟨L.ext, fun q hq => L.at_ q (p.symm.subset hq), fun q hq => L.fr q (p.symm.subset hq), (p.map _).nodup_iff.mp L.nd⟩
theorem OV.ret (L : OV h hh ws) {d : D} (q : Q d h) : Lh Q d hh := ⟨h, L.ext, q⟩
theorem OV.retN (L : OV h hh ws) (m : (p, x) ∈ ws) {d : D} (q : h p = none → Q d (up h p x)) : Lh Q d hh := by
  refine ⟨_, ?_, q (L.fr _ m)⟩
  intro b u e
  by_cases z : b = p
  · subst z; rw [up_same] at e; cases e; exact L.at_ _ m
  · rw [up_ne z] at e; exact L.ext b u e
theorem OV.cast (L : OV h hh ws) {h' : MH} {ws'} (e : hh = h') (e2 : ws = ws') : OV h h' ws' := by subst e; subst e2; exact L
end
/-! dicts whose keys are told by a list -/
section
variable {α : Type} [DecidableEq α]
def dlk (key : α → D) (L : List α) (f : α → D) : Kvs := L.map fun x => (key x, f x)
variable {key : α → D} {L : List α} {f : α → D} {x : α} {v : D}
theorem dlk_len : (dlk key L f).length = L.length := by unfold dlk; rw [List.length_map]
theorem dlk_keys : (dlk key L f).map (·.1) = L.map key := by unfold dlk; rw [List.map_map]; rfl
theorem dlk_cg {g : α → D} (e : ∀ y ∈ L, f y = g y) : dlk key L f = dlk key L g := by
  unfold dlk
  exact List.map_congr_left fun y hy => by rw [e y hy]
theorem dlk_get (inj : ∀ x y, nk (key x) = nk (key y) → x = y) : ∀ (L : List α), dget (dlk key L f) (key x) = if x ∈ L then some (f x) else none
  | [] => rfl
  | y :: L => by
    have ih := dlk_get inj L
    unfold dlk dget at ih ⊢
    rw [List.map_cons, List.find?_cons]
    by_cases e : y = x
    · subst e; simp
    · rw [decide_eq_false (fun z => e (inj _ _ z))]
      simp only [ih, List.mem_cons]
      by_cases m : x ∈ L
      · rw [if_pos m, if_pos (.inr m)]
      · rw [if_neg m, if_neg (fun z => z.elim (fun z => e z.symm) m)]
theorem dlk_new (inj : ∀ x y, nk (key x) = nk (key y) → x = y) (n : x ∉ L) : dset (dlk key L f) (key x) v = dlk key (L ++ [x]) (fun y => if y = x then v else f y) := by
  unfold dset
  rw [dlk_get inj, if_neg n, if_neg (by simp)]
  unfold dlk
  rw [List.map_append]
  refine congr (congrArg _ (List.map_congr_left fun y hy => ?_)) (by simp)
  show (key y, f y) = (key y, if y = x then v else f y)
  rw [if_neg (fun z => n (by rw [← z]; exact hy))]
theorem dlk_newC (inj : ∀ x y, nk (key x) = nk (key y) → x = y) (n : x ∉ L) : dset (dlk key L (fun _ => v)) (key x) v = dlk key (L ++ [x]) (fun _ => v) := by
  rw [dlk_new inj n]
  exact dlk_cg fun y _ => by simp
theorem dlk_put (inj : ∀ x y, nk (key x) = nk (key y) → x = y) (n : x ∈ L) : dset (dlk key L f) (key x) v = dlk key L (fun y => if y = x then v else f y) := by
  unfold dset
  rw [dlk_get inj, if_pos n, if_pos (by rfl)]
  unfold dlk
  rw [List.map_map]
  refine List.map_congr_left fun y _ => ?_
  show (if nk (key y) = nk (key x) then (key y, v) else (key y, f y)) = (key y, if y = x then v else f y)
  by_cases e : y = x
  · subst e; simp
  · rw [if_neg (fun z => e (inj _ _ z)), if_neg e]
theorem dlk_putC (inj : ∀ x y, nk (key x) = nk (key y) → x = y) (n : x ∈ L) : dset (dlk key L (fun _ => v)) (key x) v = dlk key L (fun _ => v) := by
  rw [dlk_put inj n]
  exact dlk_cg fun y _ => by simp
theorem dlk_some (inj : ∀ x y, nk (key x) = nk (key y) → x = y) : (dget (dlk key L f) (key x)).isSome = decide (x ∈ L) := by
  rw [dlk_get inj]
  by_cases m : x ∈ L
  · rw [if_pos m, decide_eq_true m]; rfl
  · rw [if_neg m, decide_eq_false m]; rfl
theorem dlk_fitS (s : ∀ x, (scaK (key x)).isSome = true) (x : α) : fit (dlk key L f) (key x) = true := by
  unfold fit dlk
  rw [s x, List.all_map]
  simp [s]
theorem dlk_fitT (s : ∀ x, tupK (key x) = true) (x : α) : fit (dlk key L f) (key x) = true := by
  unfold fit dlk
  rw [s x, List.all_map, List.all_map]
  simp [s]
end
def natK (n : Nat) : D := .int (n : Nat)
theorem natK_inj (x y : Nat) (h : nk (natK x) = nk (natK y)) : x = y := by
  simp only [natK, nk, Option.some.injEq, NestedKey.num.injEq] at h
  omega
theorem natK_sca (x : Nat) : (scaK (natK x)).isSome = true := rfl
end DL
namespace DL
open PySem PySem.Spec PyProof.Rows L2
local macro_rules | `(tactic| walk_at "ev") => `(tactic| try simp only [e_seq, e_next, e_brk, e_cnt, e_drop, e_ret, e_retN, e_ifS, e_asg, e_gN, e_gSb, e_gTp, e_gCn, e_gNl, e_var, e_varK, e_nth0, e_nthS, e_put0, e_putS, e_c, e_op, e_un, e_call, e_nil, e_cons, e_tup, e_lst, e_test, e_asB, e_tru, e_andT, e_orT, e_notT, e_andV, e_orV, e_notV, e_if, e_aug, e_augS, e_sl, e_part, e_partK, e_noPart, e_bm0, e_bm, e_join, e_yes, e_wipe0, e_wipeS, e_lc, e_for, v_add, v_addS, v_addT, v_iadd, v_sub, v_mul, v_fdiv, v_mod, v_pow, v_shl, v_shr, v_neg, v_lt, v_le, v_gt, v_ge, v_eqI, v_neI, v_eqS, v_neS, v_inS, v_ninS, v_inT, v_ninT, v_inR, v_ninR, v_inSeq, v_seqO, v_seqR, v_seqT, v_seqL, v_ixR, v_ixT, v_ixL, v_ixS, v_atK, v_atSK, v_get, v_getL, v_getK, v_set, v_setL, v_setK, v_on1, v_on2, v_lenR, v_lenT, v_lenL, v_lenS, v_seqK, v_tuple, v_list, v_abs, v_intI, v_intB, v_okL, v_isLst, v_app, v_lstK, v_slS, v_slT, v_join, v_is, v_isnot, v_max, v_min, v_iSeq, v_srcT, v_srcL, v_srcS, v_srcR, v_srcO, v_iRg1, v_rg1, v_truN, v_truB, v_truI, v_truS, v_truR, v_truT, v_truRol, v_truL, v_inRol, v_ninRol, v_inO, v_inOd, v_inDic, v_ixO, v_ixOd, v_ixSeq, v_ixDic, v_dgetK, v_ixStr, v_getO, v_getOd, v_setO, v_setOd, v_setDic, v_lenO, v_lenOd, e_dic0, e_disp, e_pairs0, e_pairsS, e_chain, v_bits, v_iRg3, v_rg3, v_iRg2, v_rg2, v_iEn, v_enT, v_enR, v_enO, v_iZp, v_zpT, v_zpR, v_zpO, v_repr, v_strI, v_strS, v_addR, v_and, v_slR, v_slL, v_ltS, v_srtT, v_srtR, v_srtO, v_srtD, v_revR, v_revT, v_isB, v_iZs, v_zsT, e_split, v_split, v_words, v_index, v_eqIS, v_neIS, v_eqB, v_neB])
local macro_rules | `(tactic| walk_at "e0") => `(tactic| try simp only [e_seq, e_brk, e_cnt, e_drop, e_ret, e_retN, e_ifS, e_asg, e_gN, e_gSb, e_gTp, e_gCn, e_gNl, e_var, e_varK, e_nth0, e_nthS, e_put0, e_putS, e_c, e_op, e_un, e_call, e_nil, e_cons, e_tup, e_lst, e_test, e_asB, e_tru, e_andT, e_orT, e_notT, e_andV, e_orV, e_notV, e_if, e_aug, e_augS, e_sl, e_part, e_partK, e_noPart, e_bm0, e_bm, e_join, e_yes, e_wipe0, e_wipeS, e_lc, e_for, v_add, v_addS, v_addT, v_iadd, v_sub, v_mul, v_fdiv, v_mod, v_pow, v_shl, v_shr, v_neg, v_lt, v_le, v_gt, v_ge, v_eqI, v_neI, v_eqS, v_neS, v_inS, v_ninS, v_inT, v_ninT, v_inR, v_ninR, v_inSeq, v_seqO, v_seqR, v_seqT, v_seqL, v_ixR, v_ixT, v_ixL, v_ixS, v_atK, v_atSK, v_get, v_getL, v_getK, v_set, v_setL, v_setK, v_on1, v_on2, v_lenR, v_lenT, v_lenL, v_lenS, v_seqK, v_tuple, v_list, v_abs, v_intI, v_intB, v_okL, v_isLst, v_app, v_lstK, v_slS, v_slT, v_join, v_is, v_isnot, v_max, v_min, v_iSeq, v_srcT, v_srcL, v_srcS, v_srcR, v_srcO, v_iRg1, v_rg1, v_truN, v_truB, v_truI, v_truS, v_truR, v_truT, v_truRol, v_truL, v_inRol, v_ninRol, v_inO, v_inOd, v_inDic, v_ixO, v_ixOd, v_ixSeq, v_ixDic, v_dgetK, v_ixStr, v_getO, v_getOd, v_setO, v_setOd, v_setDic, v_lenO, v_lenOd, e_dic0, e_disp, e_pairs0, e_pairsS, e_chain, v_bits, v_iRg3, v_rg3, v_iRg2, v_rg2, v_iEn, v_enT, v_enR, v_enO, v_iZp, v_zpT, v_zpR, v_zpO, v_repr, v_strI, v_strS, v_addR, v_and, v_slR, v_slL, v_ltS, v_srtT, v_srtR, v_srtO, v_srtD, v_revR, v_revT, v_isB, v_iZs, v_zsT, v_eqIS, v_neIS, v_eqB, v_neB])
section
variable {α : Type} {h hh : MH} {a c : Addr} {cs : List Int} {ws : List (Addr × MO)} {xs : List D} {stab : MH → Prop} {g : G1} {te : E1} {tt : T1} {vs : List Nat} {σ : Sl} {Q : KD}
theorem lcT_sub (L : LV h a c cs hh ws) (ys : List α) (e f : α → D) (ex : xs = ys.map e) (hz : ys.length ≤ 1000000) (hs : ∀ h1, LV h a c cs h1 ws → stab h1)
    (he : ∀ y ∈ ys, ∀ (h1 : MH) (Q' : KD) (R : MH → Prop), LV h a c cs h1 ws → (∀ h2, LV h a c cs h2 ws → Q' (f y) h2) → (∀ h2, LV h a c cs h2 ws → R h2) → g (e y) (wipeD σ vs) h1 fun σ2 h2 => tt σ2 h2 fun b h3 => if b = true then te σ2 h3 Q' else R h3)
    (fin : ∀ (zs : List α) (p : Addr) (h1 : MH), zs.Sublist ys → p ≠ a → LV h a c cs h1 ((p, .lst (zs.map f)) :: ws) → Q (.ref p) h1) : lcT xs stab g tt te vs σ Q hh := by
  subst ex
  refine ⟨by rw [List.length_map]; exact Nat.le_of_lt (sl_lt hz), fun i acc h1 => ∃ zs : List α, LV h a c cs h1 ws ∧ acc = zs.map f ∧ zs.Sublist (ys.take i), ⟨hh, le.refl, [], L, rfl, List.nil_sublist _⟩, fun i acc h1 ⟨_, L1, _⟩ => hs h1 L1, ?_, ?_⟩
  · rintro i x acc h1 hx ⟨zs, L1, rfl, sub⟩
    rw [List.getElem?_map] at hx
    obtain ⟨y, hy, rfl⟩ := Option.map_eq_some_iff.mp hx
    obtain ⟨hi, ey⟩ := List.getElem?_eq_some_iff.mp hy
    have et : ys.take (i + 1) = ys.take i ++ [y] := by rw [List.take_succ_eq_append_getElem hi, ey]
    refine he y (List.mem_of_getElem? hy) h1 (fun z h4 => ∃ h5, le h5 h4 ∧ ∃ zs' : List α, LV h a c cs h5 ws ∧ zs.map f ++ [z] = zs'.map f ∧ zs'.Sublist (ys.take (i + 1))) (fun h4 => ∃ h5, le h5 h4 ∧ ∃ zs' : List α, LV h a c cs h5 ws ∧ zs.map f = zs'.map f ∧ zs'.Sublist (ys.take (i + 1))) L1 (fun h2 L2 => ⟨h2, le.refl, zs ++ [y], L2, by rw [List.map_append]; rfl, by rw [et]; exact sub.append (List.Sublist.refl _)⟩) fun h2 L2 => ⟨h2, le.refl, zs, L2, rfl, by rw [et]; exact sub.trans (List.sublist_append_left _ _)⟩
  · rintro acc h1 ⟨zs, L1, rfl, sub⟩ p np
    rw [List.length_map, List.take_length] at sub
    exact fin zs p _ sub (L1.ne np) (L1.new np _)
/-- nothing is tested; P tells of each -/
theorem lcT_each (L : LV h a c cs hh ws) (ys : List α) (e : α → D) (P : α → D → Prop) (ex : xs = ys.map e) (hz : ys.length ≤ 1000000) (hs : ∀ h1, LV h a c cs h1 ws → stab h1)
    (he : ∀ y ∈ ys, ∀ (h1 : MH) (Q' : KD), LV h a c cs h1 ws → (∀ z h2, P y z → LV h a c cs h2 ws → Q' z h2) → g (e y) (wipeD σ vs) h1 fun σ2 h2 => te σ2 h2 Q')
    (fin : ∀ (acc : List D) (p : Addr) (h1 : MH), Paired P ys acc → p ≠ a → LV h a c cs h1 ((p, .lst acc) :: ws) → Q (.ref p) h1) : lcT xs stab g dYes te vs σ Q hh := by
  subst ex
  refine ⟨by rw [List.length_map]; exact Nat.le_of_lt (sl_lt hz), fun i acc h1 => LV h a c cs h1 ws ∧ Paired P (ys.take i) acc, ⟨hh, le.refl, L, .nil⟩, fun i acc h1 ⟨L1, _⟩ => hs h1 L1, ?_, ?_⟩
  · rintro i x acc h1 hx ⟨L1, pr⟩
    rw [List.getElem?_map] at hx
    obtain ⟨y, hy, rfl⟩ := Option.map_eq_some_iff.mp hx
    obtain ⟨hi, ey⟩ := List.getElem?_eq_some_iff.mp hy
    refine he y (List.mem_of_getElem? hy) h1 (fun z h4 => ∃ h5, le h5 h4 ∧ LV h a c cs h5 ws ∧ Paired P (ys.take (i + 1)) (acc ++ [z])) L1 fun z h2 hz L2 => ⟨h2, le.refl, L2, ?_⟩
    rw [List.take_succ_eq_append_getElem hi, ey]
    exact P2.append pr (.cons hz .nil)
  · rintro acc h1 ⟨L1, pr⟩ p np
    rw [List.length_map, List.take_length] at pr
    exact fin acc p _ pr (L1.ne np) (L1.new np _)
end
/-! a list of the caller's is written: the base moves -/
theorem LV.base {h hh : MH} {a c pl : Addr} {cs : List Int} {ws : List (Addr × MO)} (L : LV h a c cs hh ws) {u : MO} (e : h pl = some u) (pa : pl ≠ a) (pc : pl ≠ c) (x : MO) : LV (up h pl x) a c cs (up hh pl x) ws := by
  obtain ⟨o, k, E⟩ := L.ext
  have nw : ∀ p ∈ ws, p.1 ≠ pl := fun p hp z => by
    have := L.fr p hp
    rw [z, e] at this; cases this
  refine ⟨L.dr0.put (Ne.symm pa) (Ne.symm pc), ⟨o, k, ?_, by rw [up_ne pa.symm]; exact E.at_⟩, fun p hp => by rw [up_ne (nw p hp)]; exact L.at_ p hp, fun p hp => by rw [up_ne (nw p hp)]; exact L.fr p hp, L.nd⟩
  rw [up_com pa]
  exact le.up2 E.le_
theorem LV.cast {h h' hh hh' : MH} {a c : Addr} {cs : List Int} {ws : List (Addr × MO)} (L : LV h a c cs hh ws) (e : h = h') (e2 : hh = hh') : LV h' a c cs hh' ws := by subst e; subst e2; exact L
theorem filt_add {α : Type} (p : α → Bool) : ∀ l : List α, (l.filter fun x => !p x).length + (l.filter p).length = l.length
  | [] => rfl
  | x :: l => by
    have ih := filt_add p l
    rw [List.filter_cons, List.filter_cons]
    cases p x <;> simp <;> omega
theorem LV.swap {h hh : MH} {a c : Addr} {cs : List Int} {ws : List (Addr × MO)} {x y : Addr × MO} (L : LV h a c cs hh (x :: y :: ws)) : LV h a c cs hh (y :: x :: ws) := by
  refine ⟨L.dr0, L.ext, fun q hq => L.at_ q ?_, fun q hq => L.fr q ?_, ?_⟩
  · rcases List.mem_cons.mp hq with rfl | hq
    · simp
    · rcases List.mem_cons.mp hq with rfl | hq
      · simp
      · exact List.mem_cons_of_mem _ (List.mem_cons_of_mem _ hq)
  · rcases List.mem_cons.mp hq with rfl | hq
    · simp
    · rcases List.mem_cons.mp hq with rfl | hq
      · simp
      · exact List.mem_cons_of_mem _ (List.mem_cons_of_mem _ hq)
  · have := L.nd
    simp only [List.map_cons, List.nodup_cons, List.mem_cons, not_or] at this ⊢
    exact ⟨⟨fun z => this.1.1 z.symm, this.2.1⟩, this.1.2, this.2.2⟩
theorem LV.trans {h hh h2 : MH} {a c : Addr} {cs : List Int} {ws vs : List (Addr × MO)} (L1 : LV h a c cs hh ws) (L2 : LV hh a c cs h2 vs) : LV h a c cs h2 (vs ++ ws) := by
  obtain ⟨o1, k1, E1⟩ := L1.ext
  obtain ⟨o2, k2, E2⟩ := L2.ext
  refine ⟨L1.dr0, ⟨o2, k2, ?_, E2.at_⟩, fun q hq => ?_, fun q hq => ?_, ?_⟩
  · intro b u e
    by_cases z : b = a
    · subst z; rw [up_same] at e; cases e; exact E2.at_
    · rw [up_ne z] at e
      exact L2.old (E1.get e z) z
  · rcases List.mem_append.mp hq with hq | hq
    · exact L2.at_ q hq
    · exact L2.old (L1.at_ q hq) (L1.na (l := q.1) (x := q.2) hq)
  · rcases List.mem_append.mp hq with hq | hq
    · exact E1.fresh (L2.fr q hq)
    · exact L1.fr q hq
  · rw [List.map_append, List.nodup_append]
    refine ⟨L2.nd, L1.nd, fun x hx y hy e => ?_⟩
    obtain ⟨q, hq, rfl⟩ := List.mem_map.mp hx
    obtain ⟨r, hr, rfl⟩ := List.mem_map.mp hy
    have a1 := L2.fr q hq
    have a2 := L1.at_ r hr
    rw [e, a2] at a1; cases a1
end DL
namespace DL
open PySem PySem.Spec PyProof.Rows L2
local macro_rules | `(tactic| walk_at "ev") => `(tactic| try simp only [e_seq, e_next, e_brk, e_cnt, e_drop, e_ret, e_retN, e_ifS, e_asg, e_gN, e_gSb, e_gTp, e_gCn, e_gNl, e_var, e_varK, e_nth0, e_nthS, e_put0, e_putS, e_c, e_op, e_un, e_call, e_nil, e_cons, e_tup, e_lst, e_test, e_asB, e_tru, e_andT, e_orT, e_notT, e_andV, e_orV, e_notV, e_if, e_aug, e_augS, e_sl, e_part, e_partK, e_noPart, e_bm0, e_bm, e_join, e_yes, e_wipe0, e_wipeS, e_lc, e_for, v_add, v_addS, v_addT, v_iadd, v_sub, v_mul, v_fdiv, v_mod, v_pow, v_shl, v_shr, v_neg, v_lt, v_le, v_gt, v_ge, v_eqI, v_neI, v_eqS, v_neS, v_inS, v_ninS, v_inT, v_ninT, v_inR, v_ninR, v_inSeq, v_seqO, v_seqR, v_seqT, v_seqL, v_ixR, v_ixT, v_ixL, v_ixS, v_atK, v_atSK, v_get, v_getL, v_getK, v_set, v_setL, v_setK, v_on1, v_on2, v_lenR, v_lenT, v_lenL, v_lenS, v_seqK, v_tuple, v_list, v_abs, v_intI, v_intB, v_okL, v_isLst, v_app, v_lstK, v_slS, v_slT, v_join, v_is, v_isnot, v_max, v_min, v_iSeq, v_srcT, v_srcL, v_srcS, v_srcR, v_srcO, v_iRg1, v_rg1, v_truN, v_truB, v_truI, v_truS, v_truR, v_truT, v_truRol, v_truL, v_inRol, v_ninRol, v_inO, v_inOd, v_inDic, v_ixO, v_ixOd, v_ixSeq, v_ixDic, v_dgetK, v_ixStr, v_getO, v_getOd, v_setO, v_setOd, v_setDic, v_lenO, v_lenOd, e_dic0, e_disp, e_pairs0, e_pairsS, e_chain, v_bits, v_iRg3, v_rg3, v_iRg2, v_rg2, v_iEn, v_enT, v_enR, v_enO, v_iZp, v_zpT, v_zpR, v_zpO, v_repr, v_strI, v_strS, v_addR, v_and, v_slR, v_slL, v_ltS, v_srtT, v_srtR, v_srtO, v_srtD, v_revR, v_revT, v_isB, v_iZs, v_zsT, e_split, v_split, v_words, v_index, v_eqIS, v_neIS, v_eqB, v_neB])
local macro_rules | `(tactic| walk_at "e0") => `(tactic| try simp only [e_seq, e_brk, e_cnt, e_drop, e_ret, e_retN, e_ifS, e_asg, e_gN, e_gSb, e_gTp, e_gCn, e_gNl, e_var, e_varK, e_nth0, e_nthS, e_put0, e_putS, e_c, e_op, e_un, e_call, e_nil, e_cons, e_tup, e_lst, e_test, e_asB, e_tru, e_andT, e_orT, e_notT, e_andV, e_orV, e_notV, e_if, e_aug, e_augS, e_sl, e_part, e_partK, e_noPart, e_bm0, e_bm, e_join, e_yes, e_wipe0, e_wipeS, e_lc, e_for, v_add, v_addS, v_addT, v_iadd, v_sub, v_mul, v_fdiv, v_mod, v_pow, v_shl, v_shr, v_neg, v_lt, v_le, v_gt, v_ge, v_eqI, v_neI, v_eqS, v_neS, v_inS, v_ninS, v_inT, v_ninT, v_inR, v_ninR, v_inSeq, v_seqO, v_seqR, v_seqT, v_seqL, v_ixR, v_ixT, v_ixL, v_ixS, v_atK, v_atSK, v_get, v_getL, v_getK, v_set, v_setL, v_setK, v_on1, v_on2, v_lenR, v_lenT, v_lenL, v_lenS, v_seqK, v_tuple, v_list, v_abs, v_intI, v_intB, v_okL, v_isLst, v_app, v_lstK, v_slS, v_slT, v_join, v_is, v_isnot, v_max, v_min, v_iSeq, v_srcT, v_srcL, v_srcS, v_srcR, v_srcO, v_iRg1, v_rg1, v_truN, v_truB, v_truI, v_truS, v_truR, v_truT, v_truRol, v_truL, v_inRol, v_ninRol, v_inO, v_inOd, v_inDic, v_ixO, v_ixOd, v_ixSeq, v_ixDic, v_dgetK, v_ixStr, v_getO, v_getOd, v_setO, v_setOd, v_setDic, v_lenO, v_lenOd, e_dic0, e_disp, e_pairs0, e_pairsS, e_chain, v_bits, v_iRg3, v_rg3, v_iRg2, v_rg2, v_iEn, v_enT, v_enR, v_enO, v_iZp, v_zpT, v_zpR, v_zpO, v_repr, v_strI, v_strS, v_addR, v_and, v_slR, v_slL, v_ltS, v_srtT, v_srtR, v_srtO, v_srtD, v_revR, v_revT, v_isB, v_iZs, v_zsT, v_eqIS, v_neIS, v_eqB, v_neB])
/-! rows of one kind in order -/
theorem leK_anti {x y : D} (al : PySem.W.alike (pd x) (pd y) = true) (h1 : leK x y = true) (h2 : leK y x = true) : PyData.eqv (pd x) (pd y) = true := by
  have k : PySem.W.keyToks (pd x) = PySem.W.keyToks (pd y) := by
    refine (listOrd itemOrd).total _ _ ?_ ?_
    · have : (!(listOrd itemOrd).blt (PySem.W.keyToks (pd x)) (PySem.W.keyToks (pd y))) = true := h2
      simpa using this
    · have : (!(listOrd itemOrd).blt (PySem.W.keyToks (pd y)) (PySem.W.keyToks (pd x))) = true := h1
      simpa using this
  cases e : PyData.eqv (pd x) (pd y) with
  | true => rfl
  | false =>
    have := (PySem.W.toks_eqv _ _ al).2 e [] [Sum.inl 0]
    rw [k, PySem.W.lex_pre, lex_irrefl] at this
    cases this
theorem sorted_one' {α : Type} {le : α → α → Bool} (anti : ∀ a b, le a b = true → le b a = true → a = b) : ∀ {l m : List α}, l.Perm m → l.Pairwise (fun a b => le a b = true) → m.Pairwise (fun a b => le a b = true) → l = m
  | [], m, p, _, _ => (List.Perm.eq_nil p.symm).symm ▸ rfl
  | a :: l, [], p, _, _ => by have := p.length_eq; simp at this
  | a :: l, b :: m, p, h1, h2 => by
    rw [List.pairwise_cons] at h1 h2
    have e : a = b := by
      have ha : a ∈ b :: m := p.mem_iff.mp (by simp)
      have hb : b ∈ a :: l := p.mem_iff.mpr (by simp)
      rcases List.mem_cons.mp ha with z | z
      · exact z
      · rcases List.mem_cons.mp hb with y | y
        · exact y.symm
        · exact anti _ _ (h1.1 b y) (h2.1 a z)
    subst e
    rw [sorted_one' anti (List.Perm.cons_inv p) h1.2 h2.2]
theorem map_pre' {α β : Type} {f : α → β} {l : List α} : ∀ {ys : List β}, (∀ y ∈ ys, y ∈ l.map f) → ∃ m : List α, ys = m.map f ∧ ∀ x ∈ m, x ∈ l
  | [], _ => ⟨[], rfl, by simp⟩
  | y :: ys, h => by
    obtain ⟨m, rfl, hm⟩ := map_pre' (ys := ys) fun z hz => h z (by simp [hz])
    obtain ⟨x, hx, rfl⟩ := List.mem_map.mp (h y (by simp))
    refine ⟨x :: m, rfl, fun z hz => ?_⟩
    rcases List.mem_cons.mp hz with rfl | hz
    · exact hx
    · exact hm z hz
/-- a kind of rows: alike, told by their data -/
structure SFk {α : Type} (f : α → D) : Prop where
  al : ∀ x y, PySem.W.alike (pd (f x)) (pd (f y)) = true
  inj : ∀ x y, PyData.eqv (pd (f x)) (pd (f y)) = true → x = y
  pu : ∀ x, pure? 50 (f x) = true
section
variable {α : Type} {f : α → D}
def leF (f : α → D) (a b : α) : Bool := leK (f a) (f b)
def sortF (f : α → D) (l : List α) : List α := l.mergeSort (leF f)
theorem leF_tot (f : α → D) : PySem.W.TotalLe (leF f) := PySem.W.sortLe_total (listOrd itemOrd) false (fun x : α => PySem.W.keyToks (pd (f x)))
theorem sortF_perm (f : α → D) (l : List α) : (sortF f l).Perm l := List.mergeSort_perm _ _
theorem sortF_pw (f : α → D) (l : List α) : (sortF f l).Pairwise (fun a b => leF f a b = true) := PySem.W.sort_pairwise (leF_tot f) l
theorem SFk.anti (k : SFk f) (a b : α) (h1 : leF f a b = true) (h2 : leF f b a = true) : a = b := k.inj a b (leK_anti (k.al a b) h1 h2)
theorem SFk.same (k : SFk f) {l m : List α} (p : l.Perm m) : sortF f l = sortF f m := sorted_one' k.anti ((sortF_perm f l).trans (p.trans (sortF_perm f m).symm)) (sortF_pw f l) (sortF_pw f m)
theorem SFk.fixed (k : SFk f) {l : List α} (h : l.Pairwise (fun a b => leF f a b = true)) : sortF f l = l := sorted_one' k.anti (sortF_perm f l) (sortF_pw f l) h
theorem SFk.inj' (k : SFk f) {x y : α} (h : f x = f y) : x = y := by
  refine k.anti x y ?_ ?_
  · show leK (f x) (f y) = true
    rw [h]
    unfold leK PySem.W.dataLt
    rw [lex_irrefl]; rfl
  · show leK (f y) (f x) = true
    rw [h]
    unfold leK PySem.W.dataLt
    rw [lex_irrefl]; rfl
theorem map_perm_inv (inj : ∀ x y, f x = f y → x = y) : ∀ {l m : List α}, (l.map f).Perm (m.map f) → l.Perm m
  | [], m, p => by
    have := p.length_eq
    cases m with
    | nil => exact .nil
    | cons _ _ => simp at this
  | x :: l, m, p => by
    have hx : f x ∈ m.map f := p.subset (by simp)
    obtain ⟨y, hy, e⟩ := List.mem_map.mp hx
    have := inj _ _ e
    subst this
    obtain ⟨m1, m2, rfl⟩ := List.append_of_mem hy
    have p2 : (l.map f).Perm ((m1 ++ m2).map f) := by
      rw [List.map_cons, List.map_append, List.map_cons] at p
      rw [List.map_append]
      exact List.Perm.cons_inv (p.trans List.perm_middle)
    exact ((map_perm_inv inj p2).cons _).trans List.perm_middle.symm
theorem SFk.sorted (k : SFk f) {l : List α} {ys : List D} (p : ys.Perm (l.map f)) (s : ys.Pairwise (fun a b => leK a b = true)) : ys = (sortF f l).map f := by
  obtain ⟨m, rfl, hm⟩ := map_pre' fun y hy => p.subset hy
  rw [List.pairwise_map] at s
  rw [sorted_one' k.anti ((map_perm_inv (fun x y => k.inj') p).trans (sortF_perm f l).symm) s (sortF_pw f l)]
theorem SFk.sortK (k : SFk f) {l : List α} {h : MH} {Q : KD} (hl : l.length ≤ 1000000) (st : sortsC (l.map f) = true) (q : ∀ p', h p' = none → Q (.ref p') (up h p' (.lst ((sortF f l).map f)))) : sortK (l.map f) h Q := by
  refine ⟨pures_of fun x hx => ?_, ?_, st, by rw [List.length_map]; exact Nat.le_of_lt (sl_lt hl), fun ys p' hp hs np => ?_⟩
  · obtain ⟨y, _, rfl⟩ := List.mem_map.mp hx
    exact k.pu y
  · unfold alikeB
    rw [List.all_eq_true]
    intro x hx
    rw [List.all_eq_true]
    intro y hy
    obtain ⟨x, _, rfl⟩ := List.mem_map.mp hx
    obtain ⟨y, _, rfl⟩ := List.mem_map.mp hy
    exact k.al x y
  · rw [k.sorted hp hs]; exact q p' np
theorem sorts_tup1 {l : List α} (st : ∀ x ∈ l, isTup1 (f x) = true) : sortsC (l.map f) = true := by
  refine sortsC_of ?_
  unfold sortsB
  rw [Bool.or_eq_true]
  refine .inl ?_
  rw [List.all_map, List.all_eq_true]
  exact st
end
theorem alikeA_strs : ∀ (a b : List Str), PySem.W.alikeAll (pds (a.map D.str)) (pds (b.map D.str)) = true
  | [], _ => by simp [pds, PySem.W.alikeAll]
  | _ :: _, [] => by simp [pds, PySem.W.alikeAll]
  | x :: a, y :: b => by
    have := alikeA_strs a b
    simp only [List.map_cons, pds, PySem.W.alikeAll, pd, PySem.W.alike, this]; rfl
theorem eqvA_strs : ∀ a b : List Str, PyData.eqvAll (pds (a.map D.str)) (pds (b.map D.str)) = decide (a = b)
  | [], [] => by simp [pds, PyData.eqvAll]
  | [], _ :: _ => by simp [pds, PyData.eqvAll]
  | _ :: _, [] => by simp [pds, PyData.eqvAll]
  | x :: a, y :: b => by
    have := eqvA_strs a b
    simp only [List.map_cons, pds, PyData.eqvAll, pd, eqv_str, this]
    by_cases h1 : x = y
    · by_cases h2 : a = b <;> simp [h1, h2]
    · simp [h1]
/-- rows of texts -/
def tsK (l : List Str) : D := .tup (l.map D.str)
theorem tsK_sf : SFk tsK := by
  refine ⟨fun x y => ?_, fun x y h => ?_, fun x => ?_⟩
  · unfold tsK; simp only [pd, PySem.W.alike]; exact alikeA_strs x y
  · unfold tsK at h
    simp only [pd, PyData.eqv] at h
    rw [eqvA_strs] at h
    exact of_decide_eq_true h
  · unfold tsK
    show pures? 49 _ = true
    exact pures_of fun z hz => by
      obtain ⟨y, _, rfl⟩ := List.mem_map.mp hz
      rfl
end DL
namespace DL
open PySem PySem.Spec PyProof.Rows L2
/-! decide: 0 table, 1 valuation, 2 place, 3 looked, 4 atom, 5 low, 6 high -/
def rd_decide_b1_2 : S1 :=
  (dAsg (dIf (dTru (dOp ixD (dVar 1) (dVar 4))) (dVar 6) (dVar 5)) (gN 2))
def rd_decide_b1_1 : S1 :=
  dSeq (dDrop (dBM okL appendD (dVar 3) (dCons (dVar 4) dNil))) rd_decide_b1_2
def rd_decide_b1 : S1 :=
  dSeq (dAsg (dOp ixD (dVar 0) (dVar 2)) (gTp 3 (gCn (gN 4) (gCn (gN 5) (gCn (gN 6) gNl))))) rd_decide_b1_1
def rd_decide_3 : S1 :=
  (dRet (dTup (dCons (dOp ixD (dOp ixD (dVar 0) (dVar 2)) (dC (.int 1))) (dCons (dCall (on1 tupleD) (dCons (dVar 3) dNil)) dNil))))
def rd_decide_2 : S1 :=
  dSeq (dWhile (dTest (dOp neD (dOp ixD (dOp ixD (dVar 0) (dVar 2)) (dC (.int 0))) (dC (.str (Str.ofString "leaf"))))) rd_decide_b1) rd_decide_3
def rd_decide_1 : S1 :=
  dSeq (dAsg (dLst dNil) (gN 3)) rd_decide_2
def rd_decide : S1 :=
  dSeq (dAsg (dOp subD (dCall (on1 lenD) (dCons (dVar 0) dNil)) (dC (.int 1))) (gN 2)) rd_decide_1
/-! Decider___init__: 0 self, 1 table -/
def rd_Decider___init___1 : S1 :=
  (dAsgF "at_node" ["Decider"] (dVar 0) (dOp subD (dCall (on1 lenD) (dCons (dVar 1) dNil)) (dC (.int 1))))
def rd_Decider___init__ : S1 :=
  dSeq (dAsgF "nodes_kept" ["Decider"] (dVar 0) (dCall (on1 listD) (dCons (dVar 1) dNil))) rd_Decider___init___1
/-! Decider_wants: 0 self, 1 node -/
def rd_Decider_wants_1 : S1 :=
  (dRet (dIf (dTest (dOp eqD (dOp ixD (dVar 1) (dC (.int 0))) (dC (.str (Str.ofString "leaf"))))) (dC .none) (dOp ixD (dVar 1) (dC (.int 0)))))
def rd_Decider_wants : S1 :=
  dSeq (dAsg (dOp ixD (dUn (attrD "nodes_kept" ["Decider"] []) (dVar 0)) (dUn (attrD "at_node" ["Decider"] []) (dVar 0))) (gN 1)) rd_Decider_wants_1
/-! Decider_value: 0 self, 1 node -/
def rd_Decider_value_1 : S1 :=
  (dRet (dIf (dTest (dOp eqD (dOp ixD (dVar 1) (dC (.int 0))) (dC (.str (Str.ofString "leaf"))))) (dOp ixD (dVar 1) (dC (.int 1))) (dC .none)))
def rd_Decider_value : S1 :=
  dSeq (dAsg (dOp ixD (dUn (attrD "nodes_kept" ["Decider"] []) (dVar 0)) (dUn (attrD "at_node" ["Decider"] []) (dVar 0))) (gN 1)) rd_Decider_value_1
/-! Decider_told: 0 self, 1 truth, 2 node -/
def rd_Decider_told_1 : S1 :=
  (dIfS (dTest (dOp neD (dOp ixD (dVar 2) (dC (.int 0))) (dC (.str (Str.ofString "leaf"))))) (dAsgF "at_node" ["Decider"] (dVar 0) (dIf (dTru (dVar 1)) (dOp ixD (dVar 2) (dC (.int 2))) (dOp ixD (dVar 2) (dC (.int 1))))) dNext)
def rd_Decider_told : S1 :=
  dSeq (dAsg (dOp ixD (dUn (attrD "nodes_kept" ["Decider"] []) (dVar 0)) (dUn (attrD "at_node" ["Decider"] []) (dVar 0))) (gN 2)) rd_Decider_told_1
/-! _law_begin: 0 _law_script, 1 _law_cell -/
def rd__law_begin : S1 :=
  (dRet (dLst (dCons (dLc (iSeq (dVar 0)) (gN 1) dYes (dCall (on1 intD) (dCons (dVar 1) dNil)) [1]) (dCons (dC (.int 0)) (dCons (dC (.int 0)) (dCons (dC (.int 7)) (dCons (dC (.int 3)) dNil)))))))
/-! _law_draw: 0 _law_d, 1 _law_many, 2 _law_found, 3 _law_size, 4 _law_cell -/
def rd__law_draw_6 : S1 :=
  (dRet (dOp modD (dCall (on1 intD) (dCons (dOp fdivD (dOp ixD (dVar 0) (dC (.int 3))) (dC (.int 16))) dNil)) (dVar 1)))
def rd__law_draw_5 : S1 :=
  dSeq (dAsg (dOp modD (dCall (on1 intD) (dCons (dOp addD (dOp addD (dOp addD (dOp mulD (dOp ixD (dVar 0) (dC (.int 3))) (dC (.int 48271))) (dOp mulD (dOp modD (dCall (on1 intD) (dCons (dVar 3) dNil)) (dC (.int 2147483629))) (dC (.int 16807)))) (dOp mulD (dOp ixD (dVar 0) (dC (.int 1))) (dC (.int 69621)))) (dC (.int 11))) dNil)) (dC (.int 2147483647))) (gSb (dVar 0) (dC (.int 3)) setD)) rd__law_draw_6
def rd__law_draw_4 : S1 :=
  dSeq (dIfS (dTest (dOp geD (dVar 3) (dOp mulD (dC (.int 2)) (dOp powD (dC (.int 10)) (dC (.int 18)))))) (dSeq (dAsg (dOp modD (dCall (on1 intD) (dCons (dOp fdivD (dVar 3) (dC (.int 2))) dNil)) (dOp shlD (dC (.int 1)) (dC (.int 6000)))) (gN 2))
  (dSeq (dAsg (dOp fdivD (dVar 2) (dVar 1)) (gSb (dVar 0) (dC (.int 2)) setD))
  (dRet (dOp modD (dCall (on1 intD) (dCons (dVar 2) dNil)) (dVar 1))))) dNext) rd__law_draw_5
def rd__law_draw_3 : S1 :=
  dSeq (dAugS (dVar 0) (dC (.int 1)) (dC (.int 1)) iaddD) rd__law_draw_4
def rd__law_draw_2 : S1 :=
  dSeq (dIfS (dTest (dOp ltD (dOp ixD (dVar 0) (dC (.int 1))) (dCall (on1 lenD) (dCons (dOp ixD (dVar 0) (dC (.int 0))) dNil)))) (dSeq (dAsg (dOp ixD (dOp ixD (dVar 0) (dC (.int 0))) (dOp ixD (dVar 0) (dC (.int 1)))) (gN 4))
  (dAsg (dOp addD (dOp mulD (dC (.int 2)) (dCall (on1 absD) (dCons (dVar 4) dNil))) (dCall (on1 intD) (dCons (dOp ltD (dVar 4) (dC (.int 0))) dNil))) (gN 3))) dNext) rd__law_draw_3
def rd__law_draw_1 : S1 :=
  dSeq (dAsg (dC (.int 0)) (gN 3)) rd__law_draw_2
def rd__law_draw : S1 :=
  dSeq (dIfS (dTest (dOp gtD (dOp ixD (dVar 0) (dC (.int 2))) (dC (.int 0)))) (dSeq (dAsg (dOp ixD (dVar 0) (dC (.int 2))) (gN 2))
  (dSeq (dAsg (dOp fdivD (dVar 2) (dVar 1)) (gSb (dVar 0) (dC (.int 2)) setD))
  (dRet (dOp modD (dCall (on1 intD) (dCons (dVar 2) dNil)) (dVar 1))))) dNext) rd__law_draw_1
/-! _law_rising: 0 _law_row_here, 1 _law_k -/
def rd__law_rising : S1 :=
  (dRet (dCall (on1 allD) (dCons (dLc (iRg1 (dCons (dOp subD (dCall (on1 lenD) (dCons (dVar 0) dNil)) (dC (.int 1))) dNil)) (gN 1) dYes (dOp ltD (dOp ixD (dVar 0) (dVar 1)) (dOp ixD (dVar 0) (dOp addD (dVar 1) (dC (.int 1))))) [1]) dNil)))
/-! _law_valuations: 0 _law_many, 1 _law_k, 2 _law_j -/
def rd__law_valuations : S1 :=
  (dRet (dLc (iRg1 (dCons (dOp shlD (dC (.int 1)) (dVar 0)) dNil)) (gN 1) dYes (dCall (on1 tupleD) (dCons (dLc (iRg1 (dCons (dVar 0) dNil)) (gN 2) dYes (dOp eqD (dOp andD (dOp shrD (dVar 1) (dOp subD (dOp subD (dVar 0) (dC (.int 1))) (dVar 2))) (dC (.int 1))) (dC (.int 1))) [2]) dNil)) [1]))
/-! _law_shrunk: 0 _law_row_here, 1 _law_half -/
def rd__law_shrunk_b1_1 : S1 :=
  (dAsg (dOp fdivD (dVar 1) (dC (.int 2))) (gN 1))
def rd__law_shrunk_b1 : S1 :=
  dSeq (dAsg (dSl (dVar 0) dNoPart (dPart (dVar 1))) (gN 0)) rd__law_shrunk_b1_1
def rd__law_shrunk_2 : S1 :=
  (dRet (dVar 0))
def rd__law_shrunk_1 : S1 :=
  dSeq (dWhile (dAndT (dTest (dOp gtD (dVar 1) (dC (.int 0)))) (dTest (dOp eqD (dSl (dVar 0) dNoPart (dPart (dVar 1))) (dSl (dVar 0) (dPart (dVar 1)) dNoPart)))) rd__law_shrunk_b1) rd__law_shrunk_2
def rd__law_shrunk : S1 :=
  dSeq (dAsg (dOp fdivD (dCall (on1 lenD) (dCons (dVar 0) dNil)) (dC (.int 2))) (gN 1)) rd__law_shrunk_1
/-! _law_agrees: 0 _law_truths, 1 _law_pairs_here, 2 _law_pair -/
def rd__law_agrees : S1 :=
  (dRet (dCall (on1 allD) (dCons (dLc (iSeq (dVar 1)) (gN 2) dYes (dOp eqD (dOp ixD (dVar 0) (dOp ixD (dVar 2) (dC (.int 0)))) (dOp ixD (dVar 2) (dC (.int 1)))) [2]) dNil)))
/-! _law_way: 0 _law_nodes_here, 1 _law_truths, 2 _law_place, 3 _law_looked, 4 _law_turn, 5 _law_atom, 6 _law_low, 7 _law_high -/
def rd__law_way_b1 : S1 :=
  (dIfS (dTest (dOp neD (dOp ixD (dOp ixD (dVar 0) (dVar 2)) (dC (.int 0))) (dC (.str (Str.ofString "leaf"))))) (dSeq (dAsg (dOp ixD (dVar 0) (dVar 2)) (gTp 3 (gCn (gN 5) (gCn (gN 6) (gCn (gN 7) gNl)))))
  (dSeq (dDrop (dBM okL appendD (dVar 3) (dCons (dVar 5) dNil)))
  (dAsg (dIf (dTru (dOp ixD (dVar 1) (dVar 5))) (dVar 7) (dVar 6)) (gN 2)))) dNext)
def rd__law_way_3 : S1 :=
  (dRet (dTup (dCons (dOp ixD (dOp ixD (dVar 0) (dVar 2)) (dC (.int 1))) (dCons (dCall (on1 tupleD) (dCons (dVar 3) dNil)) dNil))))
def rd__law_way_2 : S1 :=
  dSeq (dFor (iRg1 (dCons (dCall (on1 lenD) (dCons (dVar 0) dNil)) dNil)) (gN 4) rd__law_way_b1) rd__law_way_3
def rd__law_way_1 : S1 :=
  dSeq (dAsg (dLst dNil) (gN 3)) rd__law_way_2
def rd__law_way : S1 :=
  dSeq (dAsg (dOp subD (dCall (on1 lenD) (dCons (dVar 0) dNil)) (dC (.int 1))) (gN 2)) rd__law_way_1
/-! _law_pick: 0 _law_d, 1 _law_row_here -/
def rd__law_pick (sp__law_draw : P1) : S1 :=
  (dRet (dOp ixD (dVar 1) (dCall sp__law_draw (dCons (dVar 0) (dCons (dCall (on1 lenD) (dCons (dVar 1) dNil)) dNil)))))
/-! _law_rare: 0 _law_d, 1 _law_many -/
def rd__law_rare (sp__law_draw : P1) : S1 :=
  (dRet (dOp eqD (dCall sp__law_draw (dCons (dVar 0) (dCons (dVar 1) dNil))) (dOp fdivD (dVar 1) (dC (.int 2)))))
/-! _law_shuffled: 0 _law_d, 1 _law_row_here, 2 _law_left, 3 _law_found, 4 _law_k -/
def rd__law_shuffled_b1 (sp__law_draw : P1) : S1 :=
  (dDrop (dBM okL appendD (dVar 3) (dCons (dBM okL popD (dVar 2) (dCons (dCall sp__law_draw (dCons (dVar 0) (dCons (dCall (on1 lenD) (dCons (dVar 2) dNil)) dNil))) dNil)) dNil)))
def rd__law_shuffled_3 (sp__law_draw : P1) : S1 :=
  (dRet (dVar 3))
def rd__law_shuffled_2 (sp__law_draw : P1) : S1 :=
  dSeq (dFor (iRg1 (dCons (dCall (on1 lenD) (dCons (dVar 2) dNil)) dNil)) (gN 4) (rd__law_shuffled_b1 sp__law_draw)) (rd__law_shuffled_3 sp__law_draw)
def rd__law_shuffled_1 (sp__law_draw : P1) : S1 :=
  dSeq (dAsg (dLst dNil) (gN 3)) (rd__law_shuffled_2 sp__law_draw)
def rd__law_shuffled (sp__law_draw : P1) : S1 :=
  dSeq (dAsg (dCall (on1 listD) (dCons (dVar 1) dNil)) (gN 2)) (rd__law_shuffled_1 sp__law_draw)
/-! _law_pairs: 0 _law_d, 1 _law_many, 2 _law_share, 3 _law_found, 4 _law_atom -/
def rd__law_pairs_b1 (sp__law_draw : P1) : S1 :=
  (dIfS (dTest (dOp eqD (dCall sp__law_draw (dCons (dVar 0) (dCons (dVar 2) dNil))) (dC (.int 0)))) (dDrop (dBM okL appendD (dVar 3) (dCons (dTup (dCons (dVar 4) (dCons (dOp eqD (dCall sp__law_draw (dCons (dVar 0) (dCons (dC (.int 2)) dNil))) (dC (.int 0))) dNil))) dNil))) dNext)
def rd__law_pairs_2 (sp__law_draw : P1) : S1 :=
  (dRet (dCall (on1 tupleD) (dCons (dVar 3) dNil)))
def rd__law_pairs_1 (sp__law_draw : P1) : S1 :=
  dSeq (dFor (iRg1 (dCons (dVar 1) dNil)) (gN 4) (rd__law_pairs_b1 sp__law_draw)) (rd__law_pairs_2 sp__law_draw)
def rd__law_pairs (sp__law_draw : P1) : S1 :=
  dSeq (dAsg (dLst dNil) (gN 3)) (rd__law_pairs_1 sp__law_draw)
/-! _law_by_rules: 0 _law_rules, 1 _law_truths, 2 _law_otherwise, 3 _law_pairs_here, 4 _law_number -/
def rd__law_by_rules_b1 (sp__law_agrees : P1) : S1 :=
  (dIfS (dTru (dCall sp__law_agrees (dCons (dVar 1) (dCons (dVar 3) dNil)))) (dRet (dVar 4)) dNext)
def rd__law_by_rules_1 (sp__law_agrees : P1) : S1 :=
  (dRet (dVar 2))
def rd__law_by_rules (sp__law_agrees : P1) : S1 :=
  dSeq (dFor (iSeq (dVar 0)) (gTp 2 (gCn (gN 3) (gCn (gN 4) gNl))) (rd__law_by_rules_b1 sp__law_agrees)) (rd__law_by_rules_1 sp__law_agrees)
/-! _law_values: 0 _law_d, 1 _law_rank, 2 _law_rows -/
def rd__law_values_4 (sp__law_draw : P1) (sp__law_shuffled : P1) : S1 :=
  (dRet (dSl (dCall sp__law_shuffled (dCons (dVar 0) (dCons (dVar 2) dNil))) dNoPart (dPart (dOp addD (dC (.int 1)) (dCall sp__law_draw (dCons (dVar 0) (dCons (dC (.int 6)) dNil)))))))
def rd__law_values_3 (sp__law_draw : P1) (sp__law_shuffled : P1) : S1 :=
  dSeq (dAsg (dOp addD (dVar 2) (dLst (dCons (dTup (dCons (dC (.str (Str.ofString "let"))) (dCons (dVar 1) (dCons (dTup (dCons (dC (.str (Str.ofString "p1"))) (dCons (dC (.str (Str.ofString "q2"))) dNil))) (dCons (dTup dNil) dNil))))) (dCons (dTup (dCons (dC (.str (Str.ofString "let"))) (dCons (dVar 1) (dCons (dTup (dCons (dC (.str (Str.ofString "p1"))) dNil)) (dCons (dTup (dCons (dC (.str (Str.ofString "log"))) dNil)) dNil))))) dNil)))) (gN 2)) (rd__law_values_4 sp__law_draw sp__law_shuffled)
def rd__law_values_2 (sp__law_draw : P1) (sp__law_shuffled : P1) : S1 :=
  dSeq (dAsg (dLst (dCons (dTup (dCons (dC (.str (Str.ofString "none"))) (dCons (dC (.int 0)) (dCons (dTup dNil) (dCons (dTup dNil) dNil))))) (dCons (dTup (dCons (dC (.str (Str.ofString "let"))) (dCons (dVar 1) (dCons (dTup (dCons (dC (.str (Str.ofString "p1"))) dNil)) (dCons (dTup dNil) dNil))))) (dCons (dTup (dCons (dC (.str (Str.ofString "let"))) (dCons (dOp addD (dVar 1) (dC (.int 1))) (dCons (dTup (dCons (dC (.str (Str.ofString "p1"))) dNil)) (dCons (dTup dNil) dNil))))) (dCons (dTup (dCons (dC (.str (Str.ofString "bar"))) (dCons (dVar 1) (dCons (dTup (dCons (dC (.str (Str.ofString "p1"))) dNil)) (dCons (dTup dNil) dNil))))) dNil))))) (gN 2)) (rd__law_values_3 sp__law_draw sp__law_shuffled)
def rd__law_values_1 (sp__law_draw : P1) (sp__law_shuffled : P1) : S1 :=
  dSeq (dAsg (dCall sp__law_draw (dCons (dVar 0) (dCons (dC (.int 99)) dNil))) (gN 1)) (rd__law_values_2 sp__law_draw sp__law_shuffled)
def rd__law_values (sp__law_draw : P1) (sp__law_shuffled : P1) : S1 :=
  dSeq (dIfS (dTest (dOp eqD (dCall sp__law_draw (dCons (dVar 0) (dCons (dC (.int 2)) dNil))) (dC (.int 0)))) (dRet (dCall sp__law_shuffled (dCons (dVar 0) (dCons (dLst (dCons (dC (.bool false)) (dCons (dC (.bool true)) dNil))) dNil)))) dNext) (rd__law_values_1 sp__law_draw sp__law_shuffled)
/-! _law_row: 0 _law_d, 1 _law_many, 2 _law_kinds, 3 _law_way_here, 4 _law_weights, 5 _law_worths, 6 _law_rows, 7 _law_rules, 8 _law_last, 9 _law_k, 10 _law_truths -/
def rd__law_row_b1_3 (sp__law_draw : P1) (sp__law_valuations : P1) (sp__law_pairs : P1) (sp__law_by_rules : P1) : S1 :=
  (dRet (dLc (iSeq (dVar 6)) (gN 10) dYes (dOp ixD (dVar 5) (dCall (on1 sumD) (dCons (dLc (iRg1 (dCons (dVar 1) dNil)) (gN 9) dYes (dOp mulD (dOp ixD (dVar 4) (dVar 9)) (dCall (on1 intD) (dCons (dOp ixD (dVar 10) (dVar 9)) dNil))) [9]) dNil))) [10]))
def rd__law_row_b1_2 (sp__law_draw : P1) (sp__law_valuations : P1) (sp__law_pairs : P1) (sp__law_by_rules : P1) : S1 :=
  dSeq (dAsg (dCall sp__law_valuations (dCons (dVar 1) dNil)) (gN 6)) (rd__law_row_b1_3 sp__law_draw sp__law_valuations sp__law_pairs sp__law_by_rules)
def rd__law_row_b1_1 (sp__law_draw : P1) (sp__law_valuations : P1) (sp__law_pairs : P1) (sp__law_by_rules : P1) : S1 :=
  dSeq (dAsg (dLc (iRg1 (dCons (dOp addD (dOp mulD (dC (.int 2)) (dVar 1)) (dC (.int 1))) dNil)) (gN 9) dYes (dCall sp__law_draw (dCons (dVar 0) (dCons (dVar 2) dNil))) [9]) (gN 5)) (rd__law_row_b1_2 sp__law_draw sp__law_valuations sp__law_pairs sp__law_by_rules)
def rd__law_row_b1 (sp__law_draw : P1) (sp__law_valuations : P1) (sp__law_pairs : P1) (sp__law_by_rules : P1) : S1 :=
  dSeq (dAsg (dLc (iRg1 (dCons (dVar 1) dNil)) (gN 9) dYes (dCall sp__law_draw (dCons (dVar 0) (dCons (dC (.int 3)) dNil))) [9]) (gN 4)) (rd__law_row_b1_1 sp__law_draw sp__law_valuations sp__law_pairs sp__law_by_rules)
def rd__law_row_5 (sp__law_draw : P1) (sp__law_valuations : P1) (sp__law_pairs : P1) (sp__law_by_rules : P1) : S1 :=
  (dRet (dLc (iSeq (dCall sp__law_valuations (dCons (dVar 1) dNil))) (gN 10) dYes (dCall sp__law_by_rules (dCons (dVar 7) (dCons (dVar 10) (dCons (dVar 8) dNil)))) [10]))
def rd__law_row_4 (sp__law_draw : P1) (sp__law_valuations : P1) (sp__law_pairs : P1) (sp__law_by_rules : P1) : S1 :=
  dSeq (dAsg (dCall sp__law_draw (dCons (dVar 0) (dCons (dVar 2) dNil))) (gN 8)) (rd__law_row_5 sp__law_draw sp__law_valuations sp__law_pairs sp__law_by_rules)
def rd__law_row_3 (sp__law_draw : P1) (sp__law_valuations : P1) (sp__law_pairs : P1) (sp__law_by_rules : P1) : S1 :=
  dSeq (dAsg (dLc (iRg1 (dCons (dOp addD (dC (.int 1)) (dCall sp__law_draw (dCons (dVar 0) (dCons (dC (.int 4)) dNil)))) dNil)) (gN 9) dYes (dTup (dCons (dCall sp__law_pairs (dCons (dVar 0) (dCons (dVar 1) (dCons (dC (.int 3)) dNil)))) (dCons (dCall sp__law_draw (dCons (dVar 0) (dCons (dVar 2) dNil))) dNil))) [9]) (gN 7)) (rd__law_row_4 sp__law_draw sp__law_valuations sp__law_pairs sp__law_by_rules)
def rd__law_row_2 (sp__law_draw : P1) (sp__law_valuations : P1) (sp__law_pairs : P1) (sp__law_by_rules : P1) : S1 :=
  dSeq (dIfS (dTest (dOp eqD (dVar 3) (dC (.int 1)))) (rd__law_row_b1 sp__law_draw sp__law_valuations sp__law_pairs sp__law_by_rules) dNext) (rd__law_row_3 sp__law_draw sp__law_valuations sp__law_pairs sp__law_by_rules)
def rd__law_row_1 (sp__law_draw : P1) (sp__law_valuations : P1) (sp__law_pairs : P1) (sp__law_by_rules : P1) : S1 :=
  dSeq (dIfS (dTest (dOp eqD (dVar 3) (dC (.int 0)))) (dRet (dLc (iRg1 (dCons (dOp shlD (dC (.int 1)) (dVar 1)) dNil)) (gN 9) dYes (dCall sp__law_draw (dCons (dVar 0) (dCons (dVar 2) dNil))) [9])) dNext) (rd__law_row_2 sp__law_draw sp__law_valuations sp__law_pairs sp__law_by_rules)
def rd__law_row (sp__law_draw : P1) (sp__law_valuations : P1) (sp__law_pairs : P1) (sp__law_by_rules : P1) : S1 :=
  dSeq (dAsg (dCall sp__law_draw (dCons (dVar 0) (dCons (dC (.int 3)) dNil))) (gN 3)) (rd__law_row_1 sp__law_draw sp__law_valuations sp__law_pairs sp__law_by_rules)
/-! _law_same: 0 _law_one, 1 _law_other, 2 _law_k -/
def rd__law_same_3 (sp__law_same : P1) : S1 :=
  (dRet (dAndV (dCall (on2 isiD) (dCons (dVar 0) (dCons (dC (.ty "int")) dNil))) (dAndV (dOp eqD (dCall (on2 isiD) (dCons (dVar 0) (dCons (dC (.ty "bool")) dNil))) (dCall (on2 isiD) (dCons (dVar 1) (dCons (dC (.ty "bool")) dNil)))) (dOp eqD (dVar 0) (dVar 1)))))
def rd__law_same_2 (sp__law_same : P1) : S1 :=
  dSeq (dIfS (dTru (dCall (on2 isiD) (dCons (dVar 1) (dCons (dC (.ty "str")) dNil)))) (dRet (dAndV (dCall (on2 isiD) (dCons (dVar 0) (dCons (dC (.ty "str")) dNil))) (dOp eqD (dVar 0) (dVar 1)))) dNext) (rd__law_same_3 sp__law_same)
def rd__law_same_1 (sp__law_same : P1) : S1 :=
  dSeq (dIfS (dTest (dOp isD (dVar 1) (dC .none))) (dRet (dOp isD (dVar 0) (dC .none))) dNext) (rd__law_same_2 sp__law_same)
def rd__law_same (sp__law_same : P1) : S1 :=
  dSeq (dIfS (dTru (dCall (on2 isiD) (dCons (dVar 1) (dCons (dC (.ty "tuple")) dNil)))) (dSeq (dIfS (dOrT (dNotT (dTru (dCall (on2 isiD) (dCons (dVar 0) (dCons (dC (.ty "tuple")) dNil))))) (dTest (dOp neD (dCall (on1 lenD) (dCons (dVar 0) dNil)) (dCall (on1 lenD) (dCons (dVar 1) dNil))))) (dRet (dC (.bool false))) dNext)
  (dRet (dCall (on1 allD) (dCons (dLc (iRg1 (dCons (dCall (on1 lenD) (dCons (dVar 1) dNil)) dNil)) (gN 2) dYes (dCall sp__law_same (dCons (dOp ixD (dVar 0) (dVar 2)) (dCons (dOp ixD (dVar 1) (dVar 2)) dNil))) [2]) dNil)))) dNext) (rd__law_same_1 sp__law_same)
/-! _law_is_there: 0 _law_decider, 1 _law_way_here, 2 _law_at, 3 _law_value, 4 _law_looked -/
def rd__law_is_there_2 (sp__law_same : P1) (sp_Decider_wants : P1) (sp_Decider_value : P1) : S1 :=
  (dRet (dAndV (dOp isD (dUn (attrD "wants" [] [("Decider", sp_Decider_wants)]) (dVar 0)) (dC .none)) (dCall sp__law_same (dCons (dUn (attrD "value" [] [("Decider", sp_Decider_value)]) (dVar 0)) (dCons (dVar 3) dNil)))))
def rd__law_is_there_1 (sp__law_same : P1) (sp_Decider_wants : P1) (sp_Decider_value : P1) : S1 :=
  dSeq (dIfS (dTest (dOp ltD (dVar 2) (dCall (on1 lenD) (dCons (dVar 4) dNil)))) (dRet (dAndV (dCall sp__law_same (dCons (dUn (attrD "wants" [] [("Decider", sp_Decider_wants)]) (dVar 0)) (dCons (dOp ixD (dVar 4) (dVar 2)) dNil))) (dOp isD (dUn (attrD "value" [] [("Decider", sp_Decider_value)]) (dVar 0)) (dC .none)))) dNext) (rd__law_is_there_2 sp__law_same sp_Decider_wants sp_Decider_value)
def rd__law_is_there (sp__law_same : P1) (sp_Decider_wants : P1) (sp_Decider_value : P1) : S1 :=
  dSeq (dAsg (dVar 1) (gTp 2 (gCn (gN 3) (gCn (gN 4) gNl)))) (rd__law_is_there_1 sp__law_same sp_Decider_wants sp_Decider_value)
/-! _law_all_there: 0 _law_deciders, 1 _law_ways, 2 _law_places, 3 _law_k -/
def rd__law_all_there (sp__law_is_there : P1) : S1 :=
  (dRet (dCall (on1 allD) (dCons (dLc (iRg1 (dCons (dCall (on1 lenD) (dCons (dVar 1) dNil)) dNil)) (gN 3) dYes (dCall sp__law_is_there (dCons (dOp ixD (dVar 0) (dVar 3)) (dCons (dOp ixD (dVar 1) (dVar 3)) (dCons (dOp ixD (dVar 2) (dVar 3)) dNil)))) [3]) dNil)))
/-! _law_put: 0 _law_row_here, 1 _law_many, 2 _law_values_here, 3 _law_nodes_here, 4 _law_names, 5 _law_half, 6 _law_low, 7 _law_high -/
def rd__law_put_4 (sp__law_put : P1) (sp__law_shrunk : P1) : S1 :=
  (dRet (dOp ixD (dVar 4) (dVar 0)))
def rd__law_put_3 (sp__law_put : P1) (sp__law_shrunk : P1) : S1 :=
  dSeq (dAsg (dOp subD (dCall (on1 lenD) (dCons (dVar 3) dNil)) (dC (.int 1))) (gSb (dVar 4) (dVar 0) setD)) (rd__law_put_4 sp__law_put sp__law_shrunk)
def rd__law_put_2 (sp__law_put : P1) (sp__law_shrunk : P1) : S1 :=
  dSeq (dIfS (dTest (dOp eqD (dVar 5) (dC (.int 0)))) (dDrop (dBM okL appendD (dVar 3) (dCons (dTup (dCons (dC (.str (Str.ofString "leaf"))) (dCons (dOp ixD (dVar 2) (dOp ixD (dVar 0) (dC (.int 0)))) dNil))) dNil))) (dSeq (dAsg (dCall sp__law_put (dCons (dCall sp__law_shrunk (dCons (dSl (dVar 0) dNoPart (dPart (dVar 5))) dNil)) (dCons (dVar 1) (dCons (dVar 2) (dCons (dVar 3) (dCons (dVar 4) dNil)))))) (gN 6))
  (dSeq (dAsg (dCall sp__law_put (dCons (dCall sp__law_shrunk (dCons (dSl (dVar 0) (dPart (dVar 5)) dNoPart) dNil)) (dCons (dVar 1) (dCons (dVar 2) (dCons (dVar 3) (dCons (dVar 4) dNil)))))) (gN 7))
  (dDrop (dBM okL appendD (dVar 3) (dCons (dTup (dCons (dOp subD (dVar 1) (dUn bitsD (dVar 5))) (dCons (dVar 6) (dCons (dVar 7) dNil)))) dNil)))))) (rd__law_put_3 sp__law_put sp__law_shrunk)
def rd__law_put_1 (sp__law_put : P1) (sp__law_shrunk : P1) : S1 :=
  dSeq (dAsg (dOp fdivD (dCall (on1 lenD) (dCons (dVar 0) dNil)) (dC (.int 2))) (gN 5)) (rd__law_put_2 sp__law_put sp__law_shrunk)
def rd__law_put (sp__law_put : P1) (sp__law_shrunk : P1) : S1 :=
  dSeq (dIfS (dTest (dOp inD (dVar 0) (dVar 4))) (dRet (dOp ixD (dVar 4) (dVar 0))) dNext) (rd__law_put_1 sp__law_put sp__law_shrunk)
/-! _law_nodes: 0 _law_row_here, 1 _law_many, 2 _law_values_here, 3 _law_nodes_here -/
def rd__law_nodes_2 (sp__law_put : P1) (sp__law_shrunk : P1) : S1 :=
  (dRet (dCall (on1 tupleD) (dCons (dVar 3) dNil)))
def rd__law_nodes_1 (sp__law_put : P1) (sp__law_shrunk : P1) : S1 :=
  dSeq (dDrop (dCall sp__law_put (dCons (dCall sp__law_shrunk (dCons (dCall (on1 tupleD) (dCons (dVar 0) dNil)) dNil)) (dCons (dVar 1) (dCons (dVar 2) (dCons (dVar 3) (dCons dDic0 dNil))))))) (rd__law_nodes_2 sp__law_put sp__law_shrunk)
def rd__law_nodes (sp__law_put : P1) (sp__law_shrunk : P1) : S1 :=
  dSeq (dAsg (dLst dNil) (gN 3)) (rd__law_nodes_1 sp__law_put sp__law_shrunk)
/-! _law_made: 0 _law_d, 1 _law_many, 2 _law_values_here, 3 _law_row_here -/
def rd__law_made_4 (sp__law_draw : P1) (sp__law_rare : P1) (sp__law_values : P1) (sp__law_row : P1) (sp__law_nodes : P1) : S1 :=
  (dRet (dTup (dCons (dCall sp__law_nodes (dCons (dVar 3) (dCons (dVar 1) (dCons (dVar 2) dNil)))) (dCons (dVar 3) (dCons (dVar 1) (dCons (dVar 2) dNil))))))
def rd__law_made_3 (sp__law_draw : P1) (sp__law_rare : P1) (sp__law_values : P1) (sp__law_row : P1) (sp__law_nodes : P1) : S1 :=
  dSeq (dAsg (dCall sp__law_row (dCons (dVar 0) (dCons (dVar 1) (dCons (dCall (on1 lenD) (dCons (dVar 2) dNil)) dNil)))) (gN 3)) (rd__law_made_4 sp__law_draw sp__law_rare sp__law_values sp__law_row sp__law_nodes)
def rd__law_made_2 (sp__law_draw : P1) (sp__law_rare : P1) (sp__law_values : P1) (sp__law_row : P1) (sp__law_nodes : P1) : S1 :=
  dSeq (dAsg (dCall sp__law_values (dCons (dVar 0) dNil)) (gN 2)) (rd__law_made_3 sp__law_draw sp__law_rare sp__law_values sp__law_row sp__law_nodes)
def rd__law_made_1 (sp__law_draw : P1) (sp__law_rare : P1) (sp__law_values : P1) (sp__law_row : P1) (sp__law_nodes : P1) : S1 :=
  dSeq (dIfS (dTru (dCall sp__law_rare (dCons (dVar 0) (dCons (dC (.int 9)) dNil)))) (dAsg (dOp addD (dVar 1) (dC (.int 2))) (gN 1)) dNext) (rd__law_made_2 sp__law_draw sp__law_rare sp__law_values sp__law_row sp__law_nodes)
def rd__law_made (sp__law_draw : P1) (sp__law_rare : P1) (sp__law_values : P1) (sp__law_row : P1) (sp__law_nodes : P1) : S1 :=
  dSeq (dAsg (dCall sp__law_draw (dCons (dVar 0) (dCons (dC (.int 6)) dNil))) (gN 1)) (rd__law_made_1 sp__law_draw sp__law_rare sp__law_values sp__law_row sp__law_nodes)
/-! law: 0 _law_script, 1 _law_d, 2 _law_first, 3 _law_second, 4 _law_used, 5 _law_sizes, 6 _law_rows, 7 _law_ways, 8 _law_deciders, 9 _law_places, 10 _law_turn, 11 _law_k, 12 _law_j, 13 _law_fresh, 14 _law_told, 15 _law_many, 16 _law_way_here -/
def rd_law_b2 (sp__law_begin : P1) (sp__law_made : P1) (sp__law_draw : P1) (sp__law_way : P1) (sp_Decider___init__ : P1) (sp__law_all_there : P1) (sp__law_pick : P1) (sp_Decider_told : P1) (sp__law_is_there : P1) (sp_decide : P1) (sp__law_same : P1) (sp__law_rising : P1) : S1 :=
  (dIfS (dAndT (dTest (dOp eqD (dOp ixD (dVar 9) (dVar 12)) (dCall (on1 lenD) (dCons (dOp ixD (dOp ixD (dVar 7) (dVar 12)) (dC (.int 1))) dNil)))) (dTest (dOp nisD (dMeth "told" [("Decider", sp_Decider_told)] (dOp ixD (dVar 8) (dVar 12)) (dCons (dOp eqD (dCall sp__law_draw (dCons (dVar 1) (dCons (dC (.int 2)) dNil))) (dC (.int 0))) dNil)) (dC .none)))) (dRet (dC (.bool false))) dNext)
def rd_law_b1_4 (sp__law_begin : P1) (sp__law_made : P1) (sp__law_draw : P1) (sp__law_way : P1) (sp_Decider___init__ : P1) (sp__law_all_there : P1) (sp__law_pick : P1) (sp_Decider_told : P1) (sp__law_is_there : P1) (sp_decide : P1) (sp__law_same : P1) (sp__law_rising : P1) : S1 :=
  (dFor (iRg1 (dCons (dC (.int 3)) dNil)) (gN 12) (rd_law_b2 sp__law_begin sp__law_made sp__law_draw sp__law_way sp_Decider___init__ sp__law_all_there sp__law_pick sp_Decider_told sp__law_is_there sp_decide sp__law_same sp__law_rising))
def rd_law_b1_3 (sp__law_begin : P1) (sp__law_made : P1) (sp__law_draw : P1) (sp__law_way : P1) (sp_Decider___init__ : P1) (sp__law_all_there : P1) (sp__law_pick : P1) (sp_Decider_told : P1) (sp__law_is_there : P1) (sp_decide : P1) (sp__law_same : P1) (sp__law_rising : P1) : S1 :=
  dSeq (dAugS (dVar 9) (dVar 11) (dC (.int 1)) iaddD) (rd_law_b1_4 sp__law_begin sp__law_made sp__law_draw sp__law_way sp_Decider___init__ sp__law_all_there sp__law_pick sp_Decider_told sp__law_is_there sp_decide sp__law_same sp__law_rising)
def rd_law_b1_2 (sp__law_begin : P1) (sp__law_made : P1) (sp__law_draw : P1) (sp__law_way : P1) (sp_Decider___init__ : P1) (sp__law_all_there : P1) (sp__law_pick : P1) (sp_Decider_told : P1) (sp__law_is_there : P1) (sp_decide : P1) (sp__law_same : P1) (sp__law_rising : P1) : S1 :=
  dSeq (dIfS (dTest (dOp nisD (dMeth "told" [("Decider", sp_Decider_told)] (dOp ixD (dVar 8) (dVar 11)) (dCons (dOp ixD (dOp ixD (dVar 6) (dVar 11)) (dOp ixD (dOp ixD (dOp ixD (dVar 7) (dVar 11)) (dC (.int 1))) (dOp ixD (dVar 9) (dVar 11)))) dNil)) (dC .none))) (dRet (dC (.bool false))) dNext) (rd_law_b1_3 sp__law_begin sp__law_made sp__law_draw sp__law_way sp_Decider___init__ sp__law_all_there sp__law_pick sp_Decider_told sp__law_is_there sp_decide sp__law_same sp__law_rising)
def rd_law_b1_1 (sp__law_begin : P1) (sp__law_made : P1) (sp__law_draw : P1) (sp__law_way : P1) (sp_Decider___init__ : P1) (sp__law_all_there : P1) (sp__law_pick : P1) (sp_Decider_told : P1) (sp__law_is_there : P1) (sp_decide : P1) (sp__law_same : P1) (sp__law_rising : P1) : S1 :=
  dSeq (dAsg (dCall sp__law_pick (dCons (dVar 1) (dCons (dLc (iRg1 (dCons (dC (.int 3)) dNil)) (gN 12) (dTest (dOp ltD (dOp ixD (dVar 9) (dVar 12)) (dCall (on1 lenD) (dCons (dOp ixD (dOp ixD (dVar 7) (dVar 12)) (dC (.int 1))) dNil)))) (dVar 12) [12]) dNil))) (gN 11)) (rd_law_b1_2 sp__law_begin sp__law_made sp__law_draw sp__law_way sp_Decider___init__ sp__law_all_there sp__law_pick sp_Decider_told sp__law_is_there sp_decide sp__law_same sp__law_rising)
def rd_law_b1 (sp__law_begin : P1) (sp__law_made : P1) (sp__law_draw : P1) (sp__law_way : P1) (sp_Decider___init__ : P1) (sp__law_all_there : P1) (sp__law_pick : P1) (sp_Decider_told : P1) (sp__law_is_there : P1) (sp_decide : P1) (sp__law_same : P1) (sp__law_rising : P1) : S1 :=
  dSeq (dIfS (dNotT (dTru (dCall sp__law_all_there (dCons (dVar 8) (dCons (dVar 7) (dCons (dVar 9) dNil)))))) (dRet (dC (.bool false))) dNext) (rd_law_b1_1 sp__law_begin sp__law_made sp__law_draw sp__law_way sp_Decider___init__ sp__law_all_there sp__law_pick sp_Decider_told sp__law_is_there sp_decide sp__law_same sp__law_rising)
def rd_law_b3 (sp__law_begin : P1) (sp__law_made : P1) (sp__law_draw : P1) (sp__law_way : P1) (sp_Decider___init__ : P1) (sp__law_all_there : P1) (sp__law_pick : P1) (sp_Decider_told : P1) (sp__law_is_there : P1) (sp_decide : P1) (sp__law_same : P1) (sp__law_rising : P1) : S1 :=
  (dIfS (dTest (dOp nisD (dMeth "told" [("Decider", sp_Decider_told)] (dOp ixD (dVar 8) (dVar 11)) (dCons (dOp eqD (dCall sp__law_draw (dCons (dVar 1) (dCons (dC (.int 2)) dNil))) (dC (.int 0))) dNil)) (dC .none))) (dRet (dC (.bool false))) dNext)
def rd_law_b4_1 (sp__law_begin : P1) (sp__law_made : P1) (sp__law_draw : P1) (sp__law_way : P1) (sp_Decider___init__ : P1) (sp__law_all_there : P1) (sp__law_pick : P1) (sp_Decider_told : P1) (sp__law_is_there : P1) (sp_decide : P1) (sp__law_same : P1) (sp__law_rising : P1) : S1 :=
  (dIfS (dOrT (dNotT (dTru (dCall sp__law_same (dCons (dVar 14) (dCons (dOp ixD (dVar 7) (dVar 11)) dNil))))) (dNotT (dTru (dCall sp__law_rising (dCons (dOp ixD (dVar 14) (dC (.int 1))) dNil))))) (dRet (dC (.bool false))) dNext)
def rd_law_b4 (sp__law_begin : P1) (sp__law_made : P1) (sp__law_draw : P1) (sp__law_way : P1) (sp_Decider___init__ : P1) (sp__law_all_there : P1) (sp__law_pick : P1) (sp_Decider_told : P1) (sp__law_is_there : P1) (sp_decide : P1) (sp__law_same : P1) (sp__law_rising : P1) : S1 :=
  dSeq (dAsg (dCall sp_decide (dCons (dOp ixD (dVar 4) (dVar 11)) (dCons (dOp ixD (dVar 6) (dVar 11)) dNil))) (gN 14)) (rd_law_b4_1 sp__law_begin sp__law_made sp__law_draw sp__law_way sp_Decider___init__ sp__law_all_there sp__law_pick sp_Decider_told sp__law_is_there sp_decide sp__law_same sp__law_rising)
def rd_law_15 (sp__law_begin : P1) (sp__law_made : P1) (sp__law_draw : P1) (sp__law_way : P1) (sp_Decider___init__ : P1) (sp__law_all_there : P1) (sp__law_pick : P1) (sp_Decider_told : P1) (sp__law_is_there : P1) (sp_decide : P1) (sp__law_same : P1) (sp__law_rising : P1) : S1 :=
  (dRet (dC (.bool true)))
def rd_law_14 (sp__law_begin : P1) (sp__law_made : P1) (sp__law_draw : P1) (sp__law_way : P1) (sp_Decider___init__ : P1) (sp__law_all_there : P1) (sp__law_pick : P1) (sp_Decider_told : P1) (sp__law_is_there : P1) (sp_decide : P1) (sp__law_same : P1) (sp__law_rising : P1) : S1 :=
  dSeq (dFor (iRg1 (dCons (dC (.int 3)) dNil)) (gN 11) (rd_law_b4 sp__law_begin sp__law_made sp__law_draw sp__law_way sp_Decider___init__ sp__law_all_there sp__law_pick sp_Decider_told sp__law_is_there sp_decide sp__law_same sp__law_rising)) (rd_law_15 sp__law_begin sp__law_made sp__law_draw sp__law_way sp_Decider___init__ sp__law_all_there sp__law_pick sp_Decider_told sp__law_is_there sp_decide sp__law_same sp__law_rising)
def rd_law_13 (sp__law_begin : P1) (sp__law_made : P1) (sp__law_draw : P1) (sp__law_way : P1) (sp_Decider___init__ : P1) (sp__law_all_there : P1) (sp__law_pick : P1) (sp_Decider_told : P1) (sp__law_is_there : P1) (sp_decide : P1) (sp__law_same : P1) (sp__law_rising : P1) : S1 :=
  dSeq (dIfS (dOrT (dNotT (dTru (dCall sp__law_is_there (dCons (dVar 13) (dCons (dOp ixD (dVar 7) (dC (.int 0))) (dCons (dC (.int 0)) dNil)))))) (dNotT (dTru (dCall sp__law_all_there (dCons (dVar 8) (dCons (dVar 7) (dCons (dVar 9) dNil))))))) (dRet (dC (.bool false))) dNext) (rd_law_14 sp__law_begin sp__law_made sp__law_draw sp__law_way sp_Decider___init__ sp__law_all_there sp__law_pick sp_Decider_told sp__law_is_there sp_decide sp__law_same sp__law_rising)
def rd_law_12 (sp__law_begin : P1) (sp__law_made : P1) (sp__law_draw : P1) (sp__law_way : P1) (sp_Decider___init__ : P1) (sp__law_all_there : P1) (sp__law_pick : P1) (sp_Decider_told : P1) (sp__law_is_there : P1) (sp_decide : P1) (sp__law_same : P1) (sp__law_rising : P1) : S1 :=
  dSeq (dAsg (dMake "Decider" sp_Decider___init__ (dCons (dOp ixD (dVar 4) (dC (.int 0))) dNil)) (gN 13)) (rd_law_13 sp__law_begin sp__law_made sp__law_draw sp__law_way sp_Decider___init__ sp__law_all_there sp__law_pick sp_Decider_told sp__law_is_there sp_decide sp__law_same sp__law_rising)
def rd_law_11 (sp__law_begin : P1) (sp__law_made : P1) (sp__law_draw : P1) (sp__law_way : P1) (sp_Decider___init__ : P1) (sp__law_all_there : P1) (sp__law_pick : P1) (sp_Decider_told : P1) (sp__law_is_there : P1) (sp_decide : P1) (sp__law_same : P1) (sp__law_rising : P1) : S1 :=
  dSeq (dIfS (dNotT (dTru (dCall sp__law_all_there (dCons (dVar 8) (dCons (dVar 7) (dCons (dVar 9) dNil)))))) (dRet (dC (.bool false))) dNext) (rd_law_12 sp__law_begin sp__law_made sp__law_draw sp__law_way sp_Decider___init__ sp__law_all_there sp__law_pick sp_Decider_told sp__law_is_there sp_decide sp__law_same sp__law_rising)
def rd_law_10 (sp__law_begin : P1) (sp__law_made : P1) (sp__law_draw : P1) (sp__law_way : P1) (sp_Decider___init__ : P1) (sp__law_all_there : P1) (sp__law_pick : P1) (sp_Decider_told : P1) (sp__law_is_there : P1) (sp_decide : P1) (sp__law_same : P1) (sp__law_rising : P1) : S1 :=
  dSeq (dFor (iRg1 (dCons (dC (.int 3)) dNil)) (gN 11) (rd_law_b3 sp__law_begin sp__law_made sp__law_draw sp__law_way sp_Decider___init__ sp__law_all_there sp__law_pick sp_Decider_told sp__law_is_there sp_decide sp__law_same sp__law_rising)) (rd_law_11 sp__law_begin sp__law_made sp__law_draw sp__law_way sp_Decider___init__ sp__law_all_there sp__law_pick sp_Decider_told sp__law_is_there sp_decide sp__law_same sp__law_rising)
def rd_law_9 (sp__law_begin : P1) (sp__law_made : P1) (sp__law_draw : P1) (sp__law_way : P1) (sp_Decider___init__ : P1) (sp__law_all_there : P1) (sp__law_pick : P1) (sp_Decider_told : P1) (sp__law_is_there : P1) (sp_decide : P1) (sp__law_same : P1) (sp__law_rising : P1) : S1 :=
  dSeq (dFor (iRg1 (dCons (dCall (on1 sumD) (dCons (dLc (iSeq (dVar 7)) (gN 16) dYes (dCall (on1 lenD) (dCons (dOp ixD (dVar 16) (dC (.int 1))) dNil)) [16]) dNil)) dNil)) (gN 10) (rd_law_b1 sp__law_begin sp__law_made sp__law_draw sp__law_way sp_Decider___init__ sp__law_all_there sp__law_pick sp_Decider_told sp__law_is_there sp_decide sp__law_same sp__law_rising)) (rd_law_10 sp__law_begin sp__law_made sp__law_draw sp__law_way sp_Decider___init__ sp__law_all_there sp__law_pick sp_Decider_told sp__law_is_there sp_decide sp__law_same sp__law_rising)
def rd_law_8 (sp__law_begin : P1) (sp__law_made : P1) (sp__law_draw : P1) (sp__law_way : P1) (sp_Decider___init__ : P1) (sp__law_all_there : P1) (sp__law_pick : P1) (sp_Decider_told : P1) (sp__law_is_there : P1) (sp_decide : P1) (sp__law_same : P1) (sp__law_rising : P1) : S1 :=
  dSeq (dAsg (dLst (dCons (dC (.int 0)) (dCons (dC (.int 0)) (dCons (dC (.int 0)) dNil)))) (gN 9)) (rd_law_9 sp__law_begin sp__law_made sp__law_draw sp__law_way sp_Decider___init__ sp__law_all_there sp__law_pick sp_Decider_told sp__law_is_there sp_decide sp__law_same sp__law_rising)
def rd_law_7 (sp__law_begin : P1) (sp__law_made : P1) (sp__law_draw : P1) (sp__law_way : P1) (sp_Decider___init__ : P1) (sp__law_all_there : P1) (sp__law_pick : P1) (sp_Decider_told : P1) (sp__law_is_there : P1) (sp_decide : P1) (sp__law_same : P1) (sp__law_rising : P1) : S1 :=
  dSeq (dAsg (dLc (iRg1 (dCons (dC (.int 3)) dNil)) (gN 11) dYes (dMake "Decider" sp_Decider___init__ (dCons (dOp ixD (dVar 4) (dVar 11)) dNil)) [11]) (gN 8)) (rd_law_8 sp__law_begin sp__law_made sp__law_draw sp__law_way sp_Decider___init__ sp__law_all_there sp__law_pick sp_Decider_told sp__law_is_there sp_decide sp__law_same sp__law_rising)
def rd_law_6 (sp__law_begin : P1) (sp__law_made : P1) (sp__law_draw : P1) (sp__law_way : P1) (sp_Decider___init__ : P1) (sp__law_all_there : P1) (sp__law_pick : P1) (sp_Decider_told : P1) (sp__law_is_there : P1) (sp_decide : P1) (sp__law_same : P1) (sp__law_rising : P1) : S1 :=
  dSeq (dAsg (dLc (iRg1 (dCons (dC (.int 3)) dNil)) (gN 11) dYes (dCall sp__law_way (dCons (dOp ixD (dVar 4) (dVar 11)) (dCons (dOp ixD (dVar 6) (dVar 11)) dNil))) [11]) (gN 7)) (rd_law_7 sp__law_begin sp__law_made sp__law_draw sp__law_way sp_Decider___init__ sp__law_all_there sp__law_pick sp_Decider_told sp__law_is_there sp_decide sp__law_same sp__law_rising)
def rd_law_5 (sp__law_begin : P1) (sp__law_made : P1) (sp__law_draw : P1) (sp__law_way : P1) (sp_Decider___init__ : P1) (sp__law_all_there : P1) (sp__law_pick : P1) (sp_Decider_told : P1) (sp__law_is_there : P1) (sp_decide : P1) (sp__law_same : P1) (sp__law_rising : P1) : S1 :=
  dSeq (dAsg (dLc (iSeq (dVar 5)) (gN 15) dYes (dCall (on1 tupleD) (dCons (dLc (iRg1 (dCons (dVar 15) dNil)) (gN 11) dYes (dOp eqD (dCall sp__law_draw (dCons (dVar 1) (dCons (dC (.int 2)) dNil))) (dC (.int 0))) [11]) dNil)) [15]) (gN 6)) (rd_law_6 sp__law_begin sp__law_made sp__law_draw sp__law_way sp_Decider___init__ sp__law_all_there sp__law_pick sp_Decider_told sp__law_is_there sp_decide sp__law_same sp__law_rising)
def rd_law_4 (sp__law_begin : P1) (sp__law_made : P1) (sp__law_draw : P1) (sp__law_way : P1) (sp_Decider___init__ : P1) (sp__law_all_there : P1) (sp__law_pick : P1) (sp_Decider_told : P1) (sp__law_is_there : P1) (sp_decide : P1) (sp__law_same : P1) (sp__law_rising : P1) : S1 :=
  dSeq (dAsg (dLst (dCons (dOp ixD (dVar 2) (dC (.int 2))) (dCons (dOp ixD (dVar 3) (dC (.int 2))) (dCons (dOp ixD (dVar 2) (dC (.int 2))) dNil)))) (gN 5)) (rd_law_5 sp__law_begin sp__law_made sp__law_draw sp__law_way sp_Decider___init__ sp__law_all_there sp__law_pick sp_Decider_told sp__law_is_there sp_decide sp__law_same sp__law_rising)
def rd_law_3 (sp__law_begin : P1) (sp__law_made : P1) (sp__law_draw : P1) (sp__law_way : P1) (sp_Decider___init__ : P1) (sp__law_all_there : P1) (sp__law_pick : P1) (sp_Decider_told : P1) (sp__law_is_there : P1) (sp_decide : P1) (sp__law_same : P1) (sp__law_rising : P1) : S1 :=
  dSeq (dAsg (dLst (dCons (dOp ixD (dVar 2) (dC (.int 0))) (dCons (dOp ixD (dVar 3) (dC (.int 0))) (dCons (dOp ixD (dVar 2) (dC (.int 0))) dNil)))) (gN 4)) (rd_law_4 sp__law_begin sp__law_made sp__law_draw sp__law_way sp_Decider___init__ sp__law_all_there sp__law_pick sp_Decider_told sp__law_is_there sp_decide sp__law_same sp__law_rising)
def rd_law_2 (sp__law_begin : P1) (sp__law_made : P1) (sp__law_draw : P1) (sp__law_way : P1) (sp_Decider___init__ : P1) (sp__law_all_there : P1) (sp__law_pick : P1) (sp_Decider_told : P1) (sp__law_is_there : P1) (sp_decide : P1) (sp__law_same : P1) (sp__law_rising : P1) : S1 :=
  dSeq (dAsg (dCall sp__law_made (dCons (dVar 1) dNil)) (gN 3)) (rd_law_3 sp__law_begin sp__law_made sp__law_draw sp__law_way sp_Decider___init__ sp__law_all_there sp__law_pick sp_Decider_told sp__law_is_there sp_decide sp__law_same sp__law_rising)
def rd_law_1 (sp__law_begin : P1) (sp__law_made : P1) (sp__law_draw : P1) (sp__law_way : P1) (sp_Decider___init__ : P1) (sp__law_all_there : P1) (sp__law_pick : P1) (sp_Decider_told : P1) (sp__law_is_there : P1) (sp_decide : P1) (sp__law_same : P1) (sp__law_rising : P1) : S1 :=
  dSeq (dAsg (dCall sp__law_made (dCons (dVar 1) dNil)) (gN 2)) (rd_law_2 sp__law_begin sp__law_made sp__law_draw sp__law_way sp_Decider___init__ sp__law_all_there sp__law_pick sp_Decider_told sp__law_is_there sp_decide sp__law_same sp__law_rising)
def rd_law (sp__law_begin : P1) (sp__law_made : P1) (sp__law_draw : P1) (sp__law_way : P1) (sp_Decider___init__ : P1) (sp__law_all_there : P1) (sp__law_pick : P1) (sp_Decider_told : P1) (sp__law_is_there : P1) (sp_decide : P1) (sp__law_same : P1) (sp__law_rising : P1) : S1 :=
  dSeq (dAsg (dCall sp__law_begin (dCons (dVar 0) dNil)) (gN 1)) (rd_law_1 sp__law_begin sp__law_made sp__law_draw sp__law_way sp_Decider___init__ sp__law_all_there sp__law_pick sp_Decider_told sp__law_is_there sp_decide sp__law_same sp__law_rising)
end DL
namespace DL
open PySem PySem.Spec PyProof.Rows L2
def topS (i : Nat) : Stmt := PySem.Challenge.pw_leaveledger_k49_deciders.main.body.getD i (.Pass ⟨0, 0, 0, 0⟩)
structure Blt (K : PySem.W.Frag) (mg : Str → Option Value) : Prop where
  n_len : mg "len" = none
  n_tuple : mg "tuple" = none
  n_list : mg "list" = none
  n_int : mg "int" = none
  n_abs : mg "abs" = none
  n_range : mg "range" = none
  n_all : mg "all" = none
  n_isinstance : mg "isinstance" = none
  n_str : mg "str" = none
  n_bool : mg "bool" = none
  n_sum : mg "sum" = none
  f_Decider_nodes_kept : FldF K mg "Decider" "nodes_kept"
  f_Decider_at_node : FldF K mg "Decider" "at_node"
abbrev s_decide : Stmt := topS 1
theorem sc_decide : FnScope ["table", "valuation", "place", "looked", "atom", "low", "high"] ["table", "valuation"] (defScope s_decide) := ⟨rfl, rfl, rfl, by decide +kernel, rfl, by decide +kernel, by decide +kernel⟩
abbrev s_Decider___init__ : Stmt := inClass (topS 2) 0
theorem sc_Decider___init__ : FnScope ["self", "table"] ["self", "table"] (defScope s_Decider___init__) := ⟨rfl, rfl, rfl, by decide +kernel, rfl, by decide +kernel, by decide +kernel⟩
abbrev s_Decider_wants : Stmt := inClass (topS 2) 1
theorem sc_Decider_wants : FnScope ["self", "node"] ["self"] (defScope s_Decider_wants) := ⟨rfl, rfl, rfl, by decide +kernel, rfl, by decide +kernel, by decide +kernel⟩
abbrev s_Decider_value : Stmt := inClass (topS 2) 2
theorem sc_Decider_value : FnScope ["self", "node"] ["self"] (defScope s_Decider_value) := ⟨rfl, rfl, rfl, by decide +kernel, rfl, by decide +kernel, by decide +kernel⟩
abbrev s_Decider_told : Stmt := inClass (topS 2) 3
theorem sc_Decider_told : FnScope ["self", "truth", "node"] ["self", "truth"] (defScope s_Decider_told) := ⟨rfl, rfl, rfl, by decide +kernel, rfl, by decide +kernel, by decide +kernel⟩
abbrev s__law_begin : Stmt := topS 4
theorem sc__law_begin : FnScope ["_law_script", "_law_cell"] ["_law_script"] (defScope s__law_begin) := ⟨rfl, rfl, rfl, by decide +kernel, rfl, by decide +kernel, by decide +kernel⟩
abbrev s__law_draw : Stmt := topS 5
theorem sc__law_draw : FnScope ["_law_d", "_law_many", "_law_found", "_law_size", "_law_cell"] ["_law_d", "_law_many"] (defScope s__law_draw) := ⟨rfl, rfl, rfl, by decide +kernel, rfl, by decide +kernel, by decide +kernel⟩
abbrev s__law_rising : Stmt := topS 9
theorem sc__law_rising : FnScope ["_law_row_here", "_law_k"] ["_law_row_here"] (defScope s__law_rising) := ⟨rfl, rfl, rfl, by decide +kernel, rfl, by decide +kernel, by decide +kernel⟩
abbrev s__law_valuations : Stmt := topS 10
theorem sc__law_valuations : FnScope ["_law_many", "_law_k", "_law_j"] ["_law_many"] (defScope s__law_valuations) := ⟨rfl, rfl, rfl, by decide +kernel, rfl, by decide +kernel, by decide +kernel⟩
abbrev s__law_shrunk : Stmt := topS 12
theorem sc__law_shrunk : FnScope ["_law_row_here", "_law_half"] ["_law_row_here"] (defScope s__law_shrunk) := ⟨rfl, rfl, rfl, by decide +kernel, rfl, by decide +kernel, by decide +kernel⟩
abbrev s__law_agrees : Stmt := topS 17
theorem sc__law_agrees : FnScope ["_law_truths", "_law_pairs_here", "_law_pair"] ["_law_truths", "_law_pairs_here"] (defScope s__law_agrees) := ⟨rfl, rfl, rfl, by decide +kernel, rfl, by decide +kernel, by decide +kernel⟩
abbrev s__law_way : Stmt := topS 21
theorem sc__law_way : FnScope ["_law_nodes_here", "_law_truths", "_law_place", "_law_looked", "_law_turn", "_law_atom", "_law_low", "_law_high"] ["_law_nodes_here", "_law_truths"] (defScope s__law_way) := ⟨rfl, rfl, rfl, by decide +kernel, rfl, by decide +kernel, by decide +kernel⟩
abbrev s__law_pick : Stmt := topS 6
theorem sc__law_pick : FnScope ["_law_d", "_law_row_here"] ["_law_d", "_law_row_here"] (defScope s__law_pick) := ⟨rfl, rfl, rfl, by decide +kernel, rfl, by decide +kernel, by decide +kernel⟩
abbrev s__law_rare : Stmt := topS 7
theorem sc__law_rare : FnScope ["_law_d", "_law_many"] ["_law_d", "_law_many"] (defScope s__law_rare) := ⟨rfl, rfl, rfl, by decide +kernel, rfl, by decide +kernel, by decide +kernel⟩
abbrev s__law_shuffled : Stmt := topS 8
theorem sc__law_shuffled : FnScope ["_law_d", "_law_row_here", "_law_left", "_law_found", "_law_k"] ["_law_d", "_law_row_here"] (defScope s__law_shuffled) := ⟨rfl, rfl, rfl, by decide +kernel, rfl, by decide +kernel, by decide +kernel⟩
abbrev s__law_pairs : Stmt := topS 16
theorem sc__law_pairs : FnScope ["_law_d", "_law_many", "_law_share", "_law_found", "_law_atom"] ["_law_d", "_law_many", "_law_share"] (defScope s__law_pairs) := ⟨rfl, rfl, rfl, by decide +kernel, rfl, by decide +kernel, by decide +kernel⟩
abbrev s__law_by_rules : Stmt := topS 18
theorem sc__law_by_rules : FnScope ["_law_rules", "_law_truths", "_law_otherwise", "_law_pairs_here", "_law_number"] ["_law_rules", "_law_truths", "_law_otherwise"] (defScope s__law_by_rules) := ⟨rfl, rfl, rfl, by decide +kernel, rfl, by decide +kernel, by decide +kernel⟩
abbrev s__law_values : Stmt := topS 15
theorem sc__law_values : FnScope ["_law_d", "_law_rank", "_law_rows"] ["_law_d"] (defScope s__law_values) := ⟨rfl, rfl, rfl, by decide +kernel, rfl, by decide +kernel, by decide +kernel⟩
abbrev s__law_row : Stmt := topS 19
theorem sc__law_row : FnScope ["_law_d", "_law_many", "_law_kinds", "_law_way_here", "_law_weights", "_law_worths", "_law_rows", "_law_rules", "_law_last", "_law_k", "_law_truths"] ["_law_d", "_law_many", "_law_kinds"] (defScope s__law_row) := ⟨rfl, rfl, rfl, by decide +kernel, rfl, by decide +kernel, by decide +kernel⟩
abbrev s__law_same : Stmt := topS 11
theorem sc__law_same : FnScope ["_law_one", "_law_other", "_law_k"] ["_law_one", "_law_other"] (defScope s__law_same) := ⟨rfl, rfl, rfl, by decide +kernel, rfl, by decide +kernel, by decide +kernel⟩
abbrev s__law_is_there : Stmt := topS 22
theorem sc__law_is_there : FnScope ["_law_decider", "_law_way_here", "_law_at", "_law_value", "_law_looked"] ["_law_decider", "_law_way_here", "_law_at"] (defScope s__law_is_there) := ⟨rfl, rfl, rfl, by decide +kernel, rfl, by decide +kernel, by decide +kernel⟩
abbrev s__law_all_there : Stmt := topS 23
theorem sc__law_all_there : FnScope ["_law_deciders", "_law_ways", "_law_places", "_law_k"] ["_law_deciders", "_law_ways", "_law_places"] (defScope s__law_all_there) := ⟨rfl, rfl, rfl, by decide +kernel, rfl, by decide +kernel, by decide +kernel⟩
abbrev s__law_put : Stmt := topS 13
theorem sc__law_put : FnScope ["_law_row_here", "_law_many", "_law_values_here", "_law_nodes_here", "_law_names", "_law_half", "_law_low", "_law_high"] ["_law_row_here", "_law_many", "_law_values_here", "_law_nodes_here", "_law_names"] (defScope s__law_put) := ⟨rfl, rfl, rfl, by decide +kernel, rfl, by decide +kernel, by decide +kernel⟩
abbrev s__law_nodes : Stmt := topS 14
theorem sc__law_nodes : FnScope ["_law_row_here", "_law_many", "_law_values_here", "_law_nodes_here"] ["_law_row_here", "_law_many", "_law_values_here"] (defScope s__law_nodes) := ⟨rfl, rfl, rfl, by decide +kernel, rfl, by decide +kernel, by decide +kernel⟩
abbrev s__law_made : Stmt := topS 20
theorem sc__law_made : FnScope ["_law_d", "_law_many", "_law_values_here", "_law_row_here"] ["_law_d"] (defScope s__law_made) := ⟨rfl, rfl, rfl, by decide +kernel, rfl, by decide +kernel, by decide +kernel⟩
abbrev s_law : Stmt := topS 24
theorem sc_law : FnScope ["_law_script", "_law_d", "_law_first", "_law_second", "_law_used", "_law_sizes", "_law_rows", "_law_ways", "_law_deciders", "_law_places", "_law_turn", "_law_k", "_law_j", "_law_fresh", "_law_told", "_law_many", "_law_way_here"] ["_law_script"] (defScope s_law) := ⟨rfl, rfl, rfl, by decide +kernel, rfl, by decide +kernel, by decide +kernel⟩
section
variable {P : Program} {w : World} {K : PySem.W.Frag} {mg : Str → Option Value} {base : Heap}
theorem body_decide (B : Blt K mg) (f : Addr) (cdv : Value) (A : Around) (outer : List Env) (s : Shared) (H : Hp) (E : XK) (hr : RoomG 0 (A.deeper (envOfC "decide" (defScope s_decide) s.heap.objs.size f cdv))) :
    DSs (cxOf CX0 P w K mg base ["table", "valuation", "place", "looked", "atom", "low", "high"] "decide" (defScope s_decide) f cdv A outer s H E).nox (defBody s_decide) (rd_decide) := by
  have hu := hr.r.units
  have hu5 : (A.deeper (envOfC "decide" (defScope s_decide) s.heap.objs.size f cdv)).units + 65 < cLine := by have := hr.r.un; omega
  exact (dss_cons (ds_set 2 sc_decide.nd rfl (by first | exact Or.inl rfl | exact Or.inr rfl) (de_op od_sub (de_callB xd_len (by rfl) B.n_len (by decide +kernel) (da_cons (de_var 0) da_nil)) de_int))
    (dss_cons (ds_set 3 sc_decide.nd rfl (by first | exact Or.inl rfl | exact Or.inr rfl) (de_lst da_nil))
    (dss_cons (ds_while PassesOwn.never (dt_cmpR (od_ne hu) (de_ix hu (de_ix hu (de_var 0) (de_var 2) (fun _ _ => rfl)) de_int (fun _ _ => rfl)) de_str (by rfl)) (dss_cons (ds_asg (de_ix hu (de_var 0) (de_var 2) (fun _ _ => rfl)) (dg_tup (by rfl) (dgs_cons (dg_name 4 okAt0 sc_decide.nd rfl (by first | exact Or.inl rfl | exact Or.inr rfl)) (dgs_cons (dg_name 5 okAt0 sc_decide.nd rfl (by first | exact Or.inl rfl | exact Or.inr rfl)) (dgs_cons (dg_name 6 okAt0 sc_decide.nd rfl (by first | exact Or.inl rfl | exact Or.inr rfl)) dgs_nil)))))
    (dss_cons (ds_expr (de_lm PySem.F.slot_list_append PySem.F.type_list_append xm_append (de_var 3) (da_cons (de_var 4) da_nil)))
    (dss_one (ds_set 2 sc_decide.nd rfl (by first | exact Or.inl rfl | exact Or.inr rfl) (de_ifExp (dt_tru (de_ix hu (de_var 1) (de_var 4) (fun _ _ => rfl))) (de_var 6) (de_var 5)))))))
    (dss_one (ds_ret (de_tup (da_cons (de_ix hu (de_ix hu (de_var 0) (de_var 2) (fun _ _ => rfl)) de_int (fun _ _ => rfl)) (da_cons (de_callTy xd_tuple (by rfl) B.n_tuple (by decide +kernel) (da_cons (de_var 3) da_nil)) da_nil))))))))
theorem good_decide {sp : P1} (T : TopF K mg "decide" "decide" s_decide ["table", "valuation"]) (B : Blt K mg) (len : ∀ ds h Q, sp ds h Q → ds.length = 2) (sat : ∀ ds h Q, sp ds h Q → rd_decide (endN Q) (startD 7 ds) h) : Good P w K mg base 1 "decide" ["table", "valuation"] sp :=
  good_ok T sc_decide len (body_decide B) sat
theorem body_Decider___init__ (B : Blt K mg) (f : Addr) (cdv : Value) (A : Around) (outer : List Env) (s : Shared) (H : Hp) (E : XK) (hr : RoomG 0 (A.deeper (envOfC "Decider.__init__" (defScope s_Decider___init__) s.heap.objs.size f cdv))) :
    DSs (cxOf CX0 P w K mg base ["self", "table"] "Decider.__init__" (defScope s_Decider___init__) f cdv A outer s H E).nox (defBody s_Decider___init__) (rd_Decider___init__) := by
  have hu := hr.r.units
  have hu5 : (A.deeper (envOfC "Decider.__init__" (defScope s_Decider___init__) s.heap.objs.size f cdv)).units + 65 < cLine := by have := hr.r.un; omega
  exact (dss_cons (ds_fld (de_var 0) (de_callTy xd_list (by rfl) B.n_list (by decide +kernel) (da_cons (de_var 1) da_nil)) (hf_cons B.f_Decider_nodes_kept hf_nil) (by rfl))
    (dss_one (ds_fld (de_var 0) (de_op od_sub (de_callB xd_len (by rfl) B.n_len (by decide +kernel) (da_cons (de_var 1) da_nil)) de_int) (hf_cons B.f_Decider_at_node hf_nil) (by rfl))))
theorem fn_Decider___init__ {sp : P1} {f : Addr} {fd : FuncData} (F : Fun K "__init__" "Decider.__init__" s_Decider___init__ f fd) (B : Blt K mg) (len : ∀ ds h Q, sp ds h Q → ds.length = 2) (sat : ∀ ds h Q, sp ds h Q → rd_Decider___init__ (endN Q) (startD 2 ds) h) : FnG P w K mg base 1 f fd ["self", "table"] (lowP ⟨K, w, mg⟩ sp) :=
  df_ok F sc_Decider___init__ len fun cdv A outer s H E hr => ⟨_, body_Decider___init__ B f cdv A outer s H E hr, sat⟩
theorem body_Decider_wants (B : Blt K mg) (f : Addr) (cdv : Value) (A : Around) (outer : List Env) (s : Shared) (H : Hp) (E : XK) (hr : RoomG 0 (A.deeper (envOfC "Decider.wants" (defScope s_Decider_wants) s.heap.objs.size f cdv))) :
    DSs (cxOf CX0 P w K mg base ["self", "node"] "Decider.wants" (defScope s_Decider_wants) f cdv A outer s H E).nox (defBody s_Decider_wants) (rd_Decider_wants) := by
  have hu := hr.r.units
  have hu5 : (A.deeper (envOfC "Decider.wants" (defScope s_Decider_wants) s.heap.objs.size f cdv)).units + 65 < cLine := by have := hr.r.un; omega
  exact (dss_cons (ds_set 1 sc_Decider_wants.nd rfl (by first | exact Or.inl rfl | exact Or.inr rfl) (de_ix hu (de_fldO (de_var 0) (by rfl) (hf_cons B.f_Decider_nodes_kept hf_nil)) (de_fldO (de_var 0) (by rfl) (hf_cons B.f_Decider_at_node hf_nil)) (fun _ _ => rfl)))
    (dss_one (ds_ret (de_ifExp (dt_cmpR (od_eq hu) (de_ix hu (de_var 1) de_int (fun _ _ => rfl)) de_str (by rfl)) de_non (de_ix hu (de_var 1) de_int (fun _ _ => rfl))))))
theorem fn_Decider_wants {sp : P1} {f : Addr} {fd : FuncData} (F : Fun K "wants" "Decider.wants" s_Decider_wants f fd) (B : Blt K mg) (len : ∀ ds h Q, sp ds h Q → ds.length = 1) (sat : ∀ ds h Q, sp ds h Q → rd_Decider_wants (endN Q) (startD 2 ds) h) : FnG P w K mg base 1 f fd ["self"] (lowP ⟨K, w, mg⟩ sp) :=
  df_ok F sc_Decider_wants len fun cdv A outer s H E hr => ⟨_, body_Decider_wants B f cdv A outer s H E hr, sat⟩
theorem body_Decider_value (B : Blt K mg) (f : Addr) (cdv : Value) (A : Around) (outer : List Env) (s : Shared) (H : Hp) (E : XK) (hr : RoomG 0 (A.deeper (envOfC "Decider.value" (defScope s_Decider_value) s.heap.objs.size f cdv))) :
    DSs (cxOf CX0 P w K mg base ["self", "node"] "Decider.value" (defScope s_Decider_value) f cdv A outer s H E).nox (defBody s_Decider_value) (rd_Decider_value) := by
  have hu := hr.r.units
  have hu5 : (A.deeper (envOfC "Decider.value" (defScope s_Decider_value) s.heap.objs.size f cdv)).units + 65 < cLine := by have := hr.r.un; omega
  exact (dss_cons (ds_set 1 sc_Decider_value.nd rfl (by first | exact Or.inl rfl | exact Or.inr rfl) (de_ix hu (de_fldO (de_var 0) (by rfl) (hf_cons B.f_Decider_nodes_kept hf_nil)) (de_fldO (de_var 0) (by rfl) (hf_cons B.f_Decider_at_node hf_nil)) (fun _ _ => rfl)))
    (dss_one (ds_ret (de_ifExp (dt_cmpR (od_eq hu) (de_ix hu (de_var 1) de_int (fun _ _ => rfl)) de_str (by rfl)) (de_ix hu (de_var 1) de_int (fun _ _ => rfl)) de_non))))
theorem fn_Decider_value {sp : P1} {f : Addr} {fd : FuncData} (F : Fun K "value" "Decider.value" s_Decider_value f fd) (B : Blt K mg) (len : ∀ ds h Q, sp ds h Q → ds.length = 1) (sat : ∀ ds h Q, sp ds h Q → rd_Decider_value (endN Q) (startD 2 ds) h) : FnG P w K mg base 1 f fd ["self"] (lowP ⟨K, w, mg⟩ sp) :=
  df_ok F sc_Decider_value len fun cdv A outer s H E hr => ⟨_, body_Decider_value B f cdv A outer s H E hr, sat⟩
theorem body_Decider_told (B : Blt K mg) (f : Addr) (cdv : Value) (A : Around) (outer : List Env) (s : Shared) (H : Hp) (E : XK) (hr : RoomG 0 (A.deeper (envOfC "Decider.told" (defScope s_Decider_told) s.heap.objs.size f cdv))) :
    DSs (cxOf CX0 P w K mg base ["self", "truth", "node"] "Decider.told" (defScope s_Decider_told) f cdv A outer s H E).nox (defBody s_Decider_told) (rd_Decider_told) := by
  have hu := hr.r.units
  have hu5 : (A.deeper (envOfC "Decider.told" (defScope s_Decider_told) s.heap.objs.size f cdv)).units + 65 < cLine := by have := hr.r.un; omega
  exact (dss_cons (ds_set 2 sc_Decider_told.nd rfl (by first | exact Or.inl rfl | exact Or.inr rfl) (de_ix hu (de_fldO (de_var 0) (by rfl) (hf_cons B.f_Decider_nodes_kept hf_nil)) (de_fldO (de_var 0) (by rfl) (hf_cons B.f_Decider_at_node hf_nil)) (fun _ _ => rfl)))
    (dss_one (ds_if (dt_cmpR (od_ne hu) (de_ix hu (de_var 2) de_int (fun _ _ => rfl)) de_str (by rfl)) (dss_one (ds_fld (de_var 0) (de_ifExp (dt_tru (de_var 1)) (de_ix hu (de_var 2) de_int (fun _ _ => rfl)) (de_ix hu (de_var 2) de_int (fun _ _ => rfl))) (hf_cons B.f_Decider_at_node hf_nil) (by rfl))) dss_nil)))
theorem fn_Decider_told {sp : P1} {f : Addr} {fd : FuncData} (F : Fun K "told" "Decider.told" s_Decider_told f fd) (B : Blt K mg) (len : ∀ ds h Q, sp ds h Q → ds.length = 2) (sat : ∀ ds h Q, sp ds h Q → rd_Decider_told (endN Q) (startD 3 ds) h) : FnG P w K mg base 1 f fd ["self", "truth"] (lowP ⟨K, w, mg⟩ sp) :=
  df_ok F sc_Decider_told len fun cdv A outer s H E hr => ⟨_, body_Decider_told B f cdv A outer s H E hr, sat⟩
theorem body__law_begin (B : Blt K mg) (f : Addr) (cdv : Value) (A : Around) (outer : List Env) (s : Shared) (H : Hp) (E : XK) (hr : RoomG 0 (A.deeper (envOfC "_law_begin" (defScope s__law_begin) s.heap.objs.size f cdv))) :
    DSs (cxOf CX0 P w K mg base ["_law_script", "_law_cell"] "_law_begin" (defScope s__law_begin) f cdv A outer s H E).nox (defBody s__law_begin) (rd__law_begin) := by
  have hu := hr.r.units
  have hu5 : (A.deeper (envOfC "_law_begin" (defScope s__law_begin) s.heap.objs.size f cdv)).units + 65 < cLine := by have := hr.r.un; omega
  exact (dss_one (ds_ret (de_lst (da_cons (de_lc (own := [("_law_cell", 1)]) (by rfl) sc__law_begin.nd (di_seq (de_var 0)) (blkOk_by (own := [("_law_cell", 1)]) (N := ["_law_script", "_law_cell"]) (sc := defScope s__law_begin) (by decide +kernel)) (fun _ _ _ _ _ => (dg_name 1 (okAtW (by decide)) sc__law_begin.nd rfl (by first | exact Or.inl rfl | exact Or.inr rfl))) (fun _ _ _ _ _ => dts_nil) (fun _ _ _ _ _ => (de_callTy xd_int (by rfl) B.n_int (by decide +kernel) (da_cons (de_var 1) da_nil)))) (da_cons de_int (da_cons de_int (da_cons de_int (da_cons de_int da_nil))))))))
theorem good__law_begin {sp : P1} (T : TopF K mg "_law_begin" "_law_begin" s__law_begin ["_law_script"]) (B : Blt K mg) (len : ∀ ds h Q, sp ds h Q → ds.length = 1) (sat : ∀ ds h Q, sp ds h Q → rd__law_begin (endN Q) (startD 2 ds) h) : Good P w K mg base 1 "_law_begin" ["_law_script"] sp :=
  good_ok T sc__law_begin len (body__law_begin B) sat
theorem body__law_draw (B : Blt K mg) (f : Addr) (cdv : Value) (A : Around) (outer : List Env) (s : Shared) (H : Hp) (E : XK) (hr : RoomG 0 (A.deeper (envOfC "_law_draw" (defScope s__law_draw) s.heap.objs.size f cdv))) :
    DSs (cxOf CX0 P w K mg base ["_law_d", "_law_many", "_law_found", "_law_size", "_law_cell"] "_law_draw" (defScope s__law_draw) f cdv A outer s H E).nox (defBody s__law_draw) (rd__law_draw) := by
  have hu := hr.r.units
  have hu5 : (A.deeper (envOfC "_law_draw" (defScope s__law_draw) s.heap.objs.size f cdv)).units + 65 < cLine := by have := hr.r.un; omega
  exact (dss_cons (ds_if (dt_cmpR od_gt (de_ix hu (de_var 0) de_int (fun _ _ => rfl)) de_int (by rfl)) (dss_cons (ds_set 2 sc__law_draw.nd rfl (by first | exact Or.inl rfl | exact Or.inr rfl) (de_ix hu (de_var 0) de_int (fun _ _ => rfl)))
    (dss_cons (ds_asg (de_op od_fdiv (de_var 2) (de_var 1)) (dg_sub hu (de_var 0) de_int))
    (dss_one (ds_ret (de_op od_mod (de_callTy xd_int (by rfl) B.n_int (by decide +kernel) (da_cons (de_var 2) da_nil)) (de_var 1)))))) dss_nil)
    (dss_cons (ds_set 3 sc__law_draw.nd rfl (by first | exact Or.inl rfl | exact Or.inr rfl) de_int)
    (dss_cons (ds_if (dt_cmpR od_lt (de_ix hu (de_var 0) de_int (fun _ _ => rfl)) (de_callB xd_len (by rfl) B.n_len (by decide +kernel) (da_cons (de_ix hu (de_var 0) de_int (fun _ _ => rfl)) da_nil)) (by rfl)) (dss_cons (ds_set 4 sc__law_draw.nd rfl (by first | exact Or.inl rfl | exact Or.inr rfl) (de_ix hu (de_ix hu (de_var 0) de_int (fun _ _ => rfl)) (de_ix hu (de_var 0) de_int (fun _ _ => rfl)) (fun _ _ => rfl)))
    (dss_one (ds_set 3 sc__law_draw.nd rfl (by first | exact Or.inl rfl | exact Or.inr rfl) (de_op od_add (de_op od_mul de_int (de_callB xd_abs (by rfl) B.n_abs (by decide +kernel) (da_cons (de_var 4) da_nil))) (de_callTy xd_int (by rfl) B.n_int (by decide +kernel) (da_cons (de_cmpR od_lt (de_var 4) de_int (by rfl)) da_nil)))))) dss_nil)
    (dss_cons (ds_augS hu (de_var 0) de_int de_int xd_iadd)
    (dss_cons (ds_if (dt_cmpR od_ge (de_var 3) (de_op od_mul de_int (de_op od_pow de_int de_int)) (by rfl)) (dss_cons (ds_set 2 sc__law_draw.nd rfl (by first | exact Or.inl rfl | exact Or.inr rfl) (de_op od_mod (de_callTy xd_int (by rfl) B.n_int (by decide +kernel) (da_cons (de_op od_fdiv (de_var 3) de_int) da_nil)) (de_op od_shl de_int de_int)))
    (dss_cons (ds_asg (de_op od_fdiv (de_var 2) (de_var 1)) (dg_sub hu (de_var 0) de_int))
    (dss_one (ds_ret (de_op od_mod (de_callTy xd_int (by rfl) B.n_int (by decide +kernel) (da_cons (de_var 2) da_nil)) (de_var 1)))))) dss_nil)
    (dss_cons (ds_asg (de_op od_mod (de_callTy xd_int (by rfl) B.n_int (by decide +kernel) (da_cons (de_op od_add (de_op od_add (de_op od_add (de_op od_mul (de_ix hu (de_var 0) de_int (fun _ _ => rfl)) de_int) (de_op od_mul (de_op od_mod (de_callTy xd_int (by rfl) B.n_int (by decide +kernel) (da_cons (de_var 3) da_nil)) de_int) de_int)) (de_op od_mul (de_ix hu (de_var 0) de_int (fun _ _ => rfl)) de_int)) de_int) da_nil)) de_int) (dg_sub hu (de_var 0) de_int))
    (dss_one (ds_ret (de_op od_mod (de_callTy xd_int (by rfl) B.n_int (by decide +kernel) (da_cons (de_op od_fdiv (de_ix hu (de_var 0) de_int (fun _ _ => rfl)) de_int) da_nil)) (de_var 1))))))))))
theorem good__law_draw {sp : P1} (T : TopF K mg "_law_draw" "_law_draw" s__law_draw ["_law_d", "_law_many"]) (B : Blt K mg) (len : ∀ ds h Q, sp ds h Q → ds.length = 2) (sat : ∀ ds h Q, sp ds h Q → rd__law_draw (endN Q) (startD 5 ds) h) : Good P w K mg base 1 "_law_draw" ["_law_d", "_law_many"] sp :=
  good_ok T sc__law_draw len (body__law_draw B) sat
theorem body__law_rising (B : Blt K mg) (f : Addr) (cdv : Value) (A : Around) (outer : List Env) (s : Shared) (H : Hp) (E : XK) (hr : RoomG 0 (A.deeper (envOfC "_law_rising" (defScope s__law_rising) s.heap.objs.size f cdv))) :
    DSs (cxOf CX0 P w K mg base ["_law_row_here", "_law_k"] "_law_rising" (defScope s__law_rising) f cdv A outer s H E).nox (defBody s__law_rising) (rd__law_rising) := by
  have hu := hr.r.units
  have hu5 : (A.deeper (envOfC "_law_rising" (defScope s__law_rising) s.heap.objs.size f cdv)).units + 65 < cLine := by have := hr.r.un; omega
  exact (dss_one (ds_ret (de_callB (xd_all rfl) (by rfl) B.n_all (by decide +kernel) (da_cons (de_lc (own := [("_law_k", 1)]) (by rfl) sc__law_rising.nd (di_range1 (by rfl) B.n_range (da_cons (de_op od_sub (de_callB xd_len (by rfl) B.n_len (by decide +kernel) (da_cons (de_var 0) da_nil)) de_int) da_nil)) (blkOk_by (own := [("_law_k", 1)]) (N := ["_law_row_here", "_law_k"]) (sc := defScope s__law_rising) (by decide +kernel)) (fun _ _ _ _ _ => (dg_name 1 (okAtW (by decide)) sc__law_rising.nd rfl (by first | exact Or.inl rfl | exact Or.inr rfl))) (fun _ _ _ _ _ => dts_nil) (fun _ _ _ _ _ => (de_cmpR od_lt (de_ix hu (de_var 0) (de_var 1) (fun _ _ => rfl)) (de_ix hu (de_var 0) (de_op od_add (de_var 1) de_int) (fun _ _ => rfl)) (by rfl)))) da_nil))))
theorem good__law_rising {sp : P1} (T : TopF K mg "_law_rising" "_law_rising" s__law_rising ["_law_row_here"]) (B : Blt K mg) (len : ∀ ds h Q, sp ds h Q → ds.length = 1) (sat : ∀ ds h Q, sp ds h Q → rd__law_rising (endN Q) (startD 2 ds) h) : Good P w K mg base 1 "_law_rising" ["_law_row_here"] sp :=
  good_ok T sc__law_rising len (body__law_rising B) sat
theorem body__law_valuations (B : Blt K mg) (f : Addr) (cdv : Value) (A : Around) (outer : List Env) (s : Shared) (H : Hp) (E : XK) (hr : RoomG 0 (A.deeper (envOfC "_law_valuations" (defScope s__law_valuations) s.heap.objs.size f cdv))) :
    DSs (cxOf CX0 P w K mg base ["_law_many", "_law_k", "_law_j"] "_law_valuations" (defScope s__law_valuations) f cdv A outer s H E).nox (defBody s__law_valuations) (rd__law_valuations) := by
  have hu := hr.r.units
  have hu5 : (A.deeper (envOfC "_law_valuations" (defScope s__law_valuations) s.heap.objs.size f cdv)).units + 65 < cLine := by have := hr.r.un; omega
  exact (dss_one (ds_ret (de_lc (own := [("_law_k", 1)]) (by rfl) sc__law_valuations.nd (di_range1 (by rfl) B.n_range (da_cons (de_op od_shl de_int (de_var 0)) da_nil)) (blkOk_by (own := [("_law_k", 1)]) (N := ["_law_many", "_law_k", "_law_j"]) (sc := defScope s__law_valuations) (by decide +kernel)) (fun _ _ _ _ _ => (dg_name 1 (okAtW (by decide)) sc__law_valuations.nd rfl (by first | exact Or.inl rfl | exact Or.inr rfl))) (fun _ _ _ _ _ => dts_nil) (fun _ _ _ _ _ => (de_callTy xd_tuple (by rfl) B.n_tuple (by decide +kernel) (da_cons (de_lc (own := [("_law_j", 2)]) (by rfl) sc__law_valuations.nd (di_range1 (by rfl) B.n_range (da_cons (de_var 0) da_nil)) (blkOk_by (own := [("_law_j", 2)]) (N := ["_law_many", "_law_k", "_law_j"]) (sc := _) (by kernel_rfl)) (fun _ _ _ _ _ => (dg_name 2 (okAtW (by decide)) sc__law_valuations.nd rfl (by first | exact Or.inl rfl | exact Or.inr rfl))) (fun _ _ _ _ _ => dts_nil) (fun _ _ _ _ _ => (de_cmpR (od_eq hu) (de_op od_and (de_op od_shr (de_var 1) (de_op od_sub (de_op od_sub (de_var 0) de_int) (de_var 2))) de_int) de_int (by rfl)))) da_nil))))))
theorem good__law_valuations {sp : P1} (T : TopF K mg "_law_valuations" "_law_valuations" s__law_valuations ["_law_many"]) (B : Blt K mg) (len : ∀ ds h Q, sp ds h Q → ds.length = 1) (sat : ∀ ds h Q, sp ds h Q → rd__law_valuations (endN Q) (startD 3 ds) h) : Good P w K mg base 1 "_law_valuations" ["_law_many"] sp :=
  good_ok T sc__law_valuations len (body__law_valuations B) sat
theorem body__law_shrunk (B : Blt K mg) (f : Addr) (cdv : Value) (A : Around) (outer : List Env) (s : Shared) (H : Hp) (E : XK) (hr : RoomG 0 (A.deeper (envOfC "_law_shrunk" (defScope s__law_shrunk) s.heap.objs.size f cdv))) :
    DSs (cxOf CX0 P w K mg base ["_law_row_here", "_law_half"] "_law_shrunk" (defScope s__law_shrunk) f cdv A outer s H E).nox (defBody s__law_shrunk) (rd__law_shrunk) := by
  have hu := hr.r.units
  have hu5 : (A.deeper (envOfC "_law_shrunk" (defScope s__law_shrunk) s.heap.objs.size f cdv)).units + 65 < cLine := by have := hr.r.un; omega
  exact (dss_cons (ds_set 1 sc__law_shrunk.nd rfl (by first | exact Or.inl rfl | exact Or.inr rfl) (de_op od_fdiv (de_callB xd_len (by rfl) B.n_len (by decide +kernel) (da_cons (de_var 0) da_nil)) de_int))
    (dss_cons (ds_while PassesOwn.never (dt_w (dw_and (dt_cmpR od_gt (de_var 1) de_int (by rfl)) (dw_and1 (dt_cmpR (od_eq hu) (de_slice (de_var 0) do_none (do_some (de_var 1))) (de_slice (de_var 0) (do_some (de_var 1)) do_none) (by rfl))))) (dss_cons (ds_set 0 sc__law_shrunk.nd rfl (by first | exact Or.inl rfl | exact Or.inr rfl) (de_slice (de_var 0) do_none (do_some (de_var 1))))
    (dss_one (ds_set 1 sc__law_shrunk.nd rfl (by first | exact Or.inl rfl | exact Or.inr rfl) (de_op od_fdiv (de_var 1) de_int)))))
    (dss_one (ds_ret (de_var 0)))))
theorem good__law_shrunk {sp : P1} (T : TopF K mg "_law_shrunk" "_law_shrunk" s__law_shrunk ["_law_row_here"]) (B : Blt K mg) (len : ∀ ds h Q, sp ds h Q → ds.length = 1) (sat : ∀ ds h Q, sp ds h Q → rd__law_shrunk (endN Q) (startD 2 ds) h) : Good P w K mg base 1 "_law_shrunk" ["_law_row_here"] sp :=
  good_ok T sc__law_shrunk len (body__law_shrunk B) sat
theorem body__law_agrees (B : Blt K mg) (f : Addr) (cdv : Value) (A : Around) (outer : List Env) (s : Shared) (H : Hp) (E : XK) (hr : RoomG 0 (A.deeper (envOfC "_law_agrees" (defScope s__law_agrees) s.heap.objs.size f cdv))) :
    DSs (cxOf CX0 P w K mg base ["_law_truths", "_law_pairs_here", "_law_pair"] "_law_agrees" (defScope s__law_agrees) f cdv A outer s H E).nox (defBody s__law_agrees) (rd__law_agrees) := by
  have hu := hr.r.units
  have hu5 : (A.deeper (envOfC "_law_agrees" (defScope s__law_agrees) s.heap.objs.size f cdv)).units + 65 < cLine := by have := hr.r.un; omega
  exact (dss_one (ds_ret (de_callB (xd_all rfl) (by rfl) B.n_all (by decide +kernel) (da_cons (de_lc (own := [("_law_pair", 2)]) (by rfl) sc__law_agrees.nd (di_seq (de_var 1)) (blkOk_by (own := [("_law_pair", 2)]) (N := ["_law_truths", "_law_pairs_here", "_law_pair"]) (sc := defScope s__law_agrees) (by decide +kernel)) (fun _ _ _ _ _ => (dg_name 2 (okAtW (by decide)) sc__law_agrees.nd rfl (by first | exact Or.inl rfl | exact Or.inr rfl))) (fun _ _ _ _ _ => dts_nil) (fun _ _ _ _ _ => (de_cmpR (od_eq hu) (de_ix hu (de_var 0) (de_ix hu (de_var 2) de_int (fun _ _ => rfl)) (fun _ _ => rfl)) (de_ix hu (de_var 2) de_int (fun _ _ => rfl)) (by rfl)))) da_nil))))
theorem good__law_agrees {sp : P1} (T : TopF K mg "_law_agrees" "_law_agrees" s__law_agrees ["_law_truths", "_law_pairs_here"]) (B : Blt K mg) (len : ∀ ds h Q, sp ds h Q → ds.length = 2) (sat : ∀ ds h Q, sp ds h Q → rd__law_agrees (endN Q) (startD 3 ds) h) : Good P w K mg base 1 "_law_agrees" ["_law_truths", "_law_pairs_here"] sp :=
  good_ok T sc__law_agrees len (body__law_agrees B) sat
theorem body__law_way (B : Blt K mg) (f : Addr) (cdv : Value) (A : Around) (outer : List Env) (s : Shared) (H : Hp) (E : XK) (hr : RoomG 0 (A.deeper (envOfC "_law_way" (defScope s__law_way) s.heap.objs.size f cdv))) :
    DSs (cxOf CX0 P w K mg base ["_law_nodes_here", "_law_truths", "_law_place", "_law_looked", "_law_turn", "_law_atom", "_law_low", "_law_high"] "_law_way" (defScope s__law_way) f cdv A outer s H E).nox (defBody s__law_way) (rd__law_way) := by
  have hu := hr.r.units
  have hu5 : (A.deeper (envOfC "_law_way" (defScope s__law_way) s.heap.objs.size f cdv)).units + 65 < cLine := by have := hr.r.un; omega
  exact (dss_cons (ds_set 2 sc__law_way.nd rfl (by first | exact Or.inl rfl | exact Or.inr rfl) (de_op od_sub (de_callB xd_len (by rfl) B.n_len (by decide +kernel) (da_cons (de_var 0) da_nil)) de_int))
    (dss_cons (ds_set 3 sc__law_way.nd rfl (by first | exact Or.inl rfl | exact Or.inr rfl) (de_lst da_nil))
    (dss_cons (ds_for PassesOwn.never (by rfl) (di_range1 (by rfl) B.n_range (da_cons (de_callB xd_len (by rfl) B.n_len (by decide +kernel) (da_cons (de_var 0) da_nil)) da_nil)) (dg_name 4 okAt0 sc__law_way.nd rfl (by first | exact Or.inl rfl | exact Or.inr rfl)) (dss_one (ds_if (dt_cmpR (od_ne hu) (de_ix hu (de_ix hu (de_var 0) (de_var 2) (fun _ _ => rfl)) de_int (fun _ _ => rfl)) de_str (by rfl)) (dss_cons (ds_asg (de_ix hu (de_var 0) (de_var 2) (fun _ _ => rfl)) (dg_tup (by rfl) (dgs_cons (dg_name 5 okAt0 sc__law_way.nd rfl (by first | exact Or.inl rfl | exact Or.inr rfl)) (dgs_cons (dg_name 6 okAt0 sc__law_way.nd rfl (by first | exact Or.inl rfl | exact Or.inr rfl)) (dgs_cons (dg_name 7 okAt0 sc__law_way.nd rfl (by first | exact Or.inl rfl | exact Or.inr rfl)) dgs_nil)))))
    (dss_cons (ds_expr (de_lm PySem.F.slot_list_append PySem.F.type_list_append xm_append (de_var 3) (da_cons (de_var 5) da_nil)))
    (dss_one (ds_set 2 sc__law_way.nd rfl (by first | exact Or.inl rfl | exact Or.inr rfl) (de_ifExp (dt_tru (de_ix hu (de_var 1) (de_var 5) (fun _ _ => rfl))) (de_var 7) (de_var 6)))))) dss_nil)))
    (dss_one (ds_ret (de_tup (da_cons (de_ix hu (de_ix hu (de_var 0) (de_var 2) (fun _ _ => rfl)) de_int (fun _ _ => rfl)) (da_cons (de_callTy xd_tuple (by rfl) B.n_tuple (by decide +kernel) (da_cons (de_var 3) da_nil)) da_nil))))))))
theorem good__law_way {sp : P1} (T : TopF K mg "_law_way" "_law_way" s__law_way ["_law_nodes_here", "_law_truths"]) (B : Blt K mg) (len : ∀ ds h Q, sp ds h Q → ds.length = 2) (sat : ∀ ds h Q, sp ds h Q → rd__law_way (endN Q) (startD 8 ds) h) : Good P w K mg base 1 "_law_way" ["_law_nodes_here", "_law_truths"] sp :=
  good_ok T sc__law_way len (body__law_way B) sat
theorem body__law_pick {sp__law_draw : P1} (B : Blt K mg) (G__law_draw : Good P w K mg base 1 "_law_draw" ["_law_d", "_law_many"] sp__law_draw) (f : Addr) (cdv : Value) (A : Around) (outer : List Env) (s : Shared) (H : Hp) (E : XK) (hr : RoomG 1 (A.deeper (envOfC "_law_pick" (defScope s__law_pick) s.heap.objs.size f cdv))) :
    DSs (cxOf CX0 P w K mg base ["_law_d", "_law_row_here"] "_law_pick" (defScope s__law_pick) f cdv A outer s H E).nox (defBody s__law_pick) (rd__law_pick sp__law_draw) := by
  have hu := hr.r.units
  have hu5 : (A.deeper (envOfC "_law_pick" (defScope s__law_pick) s.heap.objs.size f cdv)).units + 65 < cLine := by have := hr.r.un; omega
  exact (dss_one (ds_ret (de_ix hu (de_var 1) (de_callG G__law_draw hr (by omega) (by rfl) (da_cons (de_var 0) (da_cons (de_callB xd_len (by rfl) B.n_len (by decide +kernel) (da_cons (de_var 1) da_nil)) da_nil))) (fun _ _ => rfl))))
theorem good__law_pick {sp : P1} {sp__law_draw : P1} (T : TopF K mg "_law_pick" "_law_pick" s__law_pick ["_law_d", "_law_row_here"]) (B : Blt K mg) (G__law_draw : Good P w K mg base 1 "_law_draw" ["_law_d", "_law_many"] sp__law_draw) (len : ∀ ds h Q, sp ds h Q → ds.length = 2) (sat : ∀ ds h Q, sp ds h Q → rd__law_pick sp__law_draw (endN Q) (startD 2 ds) h) : Good P w K mg base 2 "_law_pick" ["_law_d", "_law_row_here"] sp :=
  good_ok T sc__law_pick len (body__law_pick B G__law_draw) sat
theorem body__law_rare {sp__law_draw : P1} (B : Blt K mg) (G__law_draw : Good P w K mg base 1 "_law_draw" ["_law_d", "_law_many"] sp__law_draw) (f : Addr) (cdv : Value) (A : Around) (outer : List Env) (s : Shared) (H : Hp) (E : XK) (hr : RoomG 1 (A.deeper (envOfC "_law_rare" (defScope s__law_rare) s.heap.objs.size f cdv))) :
    DSs (cxOf CX0 P w K mg base ["_law_d", "_law_many"] "_law_rare" (defScope s__law_rare) f cdv A outer s H E).nox (defBody s__law_rare) (rd__law_rare sp__law_draw) := by
  have hu := hr.r.units
  have hu5 : (A.deeper (envOfC "_law_rare" (defScope s__law_rare) s.heap.objs.size f cdv)).units + 65 < cLine := by have := hr.r.un; omega
  exact (dss_one (ds_ret (de_cmpR (od_eq hu) (de_callG G__law_draw hr (by omega) (by rfl) (da_cons (de_var 0) (da_cons (de_var 1) da_nil))) (de_op od_fdiv (de_var 1) de_int) (by rfl))))
theorem good__law_rare {sp : P1} {sp__law_draw : P1} (T : TopF K mg "_law_rare" "_law_rare" s__law_rare ["_law_d", "_law_many"]) (B : Blt K mg) (G__law_draw : Good P w K mg base 1 "_law_draw" ["_law_d", "_law_many"] sp__law_draw) (len : ∀ ds h Q, sp ds h Q → ds.length = 2) (sat : ∀ ds h Q, sp ds h Q → rd__law_rare sp__law_draw (endN Q) (startD 2 ds) h) : Good P w K mg base 2 "_law_rare" ["_law_d", "_law_many"] sp :=
  good_ok T sc__law_rare len (body__law_rare B G__law_draw) sat
theorem body__law_shuffled {sp__law_draw : P1} (B : Blt K mg) (G__law_draw : Good P w K mg base 1 "_law_draw" ["_law_d", "_law_many"] sp__law_draw) (f : Addr) (cdv : Value) (A : Around) (outer : List Env) (s : Shared) (H : Hp) (E : XK) (hr : RoomG 1 (A.deeper (envOfC "_law_shuffled" (defScope s__law_shuffled) s.heap.objs.size f cdv))) :
    DSs (cxOf CX0 P w K mg base ["_law_d", "_law_row_here", "_law_left", "_law_found", "_law_k"] "_law_shuffled" (defScope s__law_shuffled) f cdv A outer s H E).nox (defBody s__law_shuffled) (rd__law_shuffled sp__law_draw) := by
  have hu := hr.r.units
  have hu5 : (A.deeper (envOfC "_law_shuffled" (defScope s__law_shuffled) s.heap.objs.size f cdv)).units + 65 < cLine := by have := hr.r.un; omega
  exact (dss_cons (ds_set 2 sc__law_shuffled.nd rfl (by first | exact Or.inl rfl | exact Or.inr rfl) (de_callTy xd_list (by rfl) B.n_list (by decide +kernel) (da_cons (de_var 1) da_nil)))
    (dss_cons (ds_set 3 sc__law_shuffled.nd rfl (by first | exact Or.inl rfl | exact Or.inr rfl) (de_lst da_nil))
    (dss_cons (ds_for PassesOwn.never (by rfl) (di_range1 (by rfl) B.n_range (da_cons (de_callB xd_len (by rfl) B.n_len (by decide +kernel) (da_cons (de_var 2) da_nil)) da_nil)) (dg_name 4 okAt0 sc__law_shuffled.nd rfl (by first | exact Or.inl rfl | exact Or.inr rfl)) (dss_one (ds_expr (de_lm PySem.F.slot_list_append PySem.F.type_list_append xm_append (de_var 3) (da_cons (de_lm PySem.F.slot_list_pop PySem.F.type_list_pop xm_pop (de_var 2) (da_cons (de_callG G__law_draw hr (by omega) (by rfl) (da_cons (de_var 0) (da_cons (de_callB xd_len (by rfl) B.n_len (by decide +kernel) (da_cons (de_var 2) da_nil)) da_nil))) da_nil)) da_nil)))))
    (dss_one (ds_ret (de_var 3))))))
theorem good__law_shuffled {sp : P1} {sp__law_draw : P1} (T : TopF K mg "_law_shuffled" "_law_shuffled" s__law_shuffled ["_law_d", "_law_row_here"]) (B : Blt K mg) (G__law_draw : Good P w K mg base 1 "_law_draw" ["_law_d", "_law_many"] sp__law_draw) (len : ∀ ds h Q, sp ds h Q → ds.length = 2) (sat : ∀ ds h Q, sp ds h Q → rd__law_shuffled sp__law_draw (endN Q) (startD 5 ds) h) : Good P w K mg base 2 "_law_shuffled" ["_law_d", "_law_row_here"] sp :=
  good_ok T sc__law_shuffled len (body__law_shuffled B G__law_draw) sat
theorem body__law_pairs {sp__law_draw : P1} (B : Blt K mg) (G__law_draw : Good P w K mg base 1 "_law_draw" ["_law_d", "_law_many"] sp__law_draw) (f : Addr) (cdv : Value) (A : Around) (outer : List Env) (s : Shared) (H : Hp) (E : XK) (hr : RoomG 1 (A.deeper (envOfC "_law_pairs" (defScope s__law_pairs) s.heap.objs.size f cdv))) :
    DSs (cxOf CX0 P w K mg base ["_law_d", "_law_many", "_law_share", "_law_found", "_law_atom"] "_law_pairs" (defScope s__law_pairs) f cdv A outer s H E).nox (defBody s__law_pairs) (rd__law_pairs sp__law_draw) := by
  have hu := hr.r.units
  have hu5 : (A.deeper (envOfC "_law_pairs" (defScope s__law_pairs) s.heap.objs.size f cdv)).units + 65 < cLine := by have := hr.r.un; omega
  exact (dss_cons (ds_set 3 sc__law_pairs.nd rfl (by first | exact Or.inl rfl | exact Or.inr rfl) (de_lst da_nil))
    (dss_cons (ds_for PassesOwn.never (by rfl) (di_range1 (by rfl) B.n_range (da_cons (de_var 1) da_nil)) (dg_name 4 okAt0 sc__law_pairs.nd rfl (by first | exact Or.inl rfl | exact Or.inr rfl)) (dss_one (ds_if (dt_cmpR (od_eq hu) (de_callG G__law_draw hr (by omega) (by rfl) (da_cons (de_var 0) (da_cons (de_var 2) da_nil))) de_int (by rfl)) (dss_one (ds_expr (de_lm PySem.F.slot_list_append PySem.F.type_list_append xm_append (de_var 3) (da_cons (de_tup (da_cons (de_var 4) (da_cons (de_cmpR (od_eq hu) (de_callG G__law_draw hr (by omega) (by rfl) (da_cons (de_var 0) (da_cons de_int da_nil))) de_int (by rfl)) da_nil))) da_nil)))) dss_nil)))
    (dss_one (ds_ret (de_callTy xd_tuple (by rfl) B.n_tuple (by decide +kernel) (da_cons (de_var 3) da_nil))))))
theorem good__law_pairs {sp : P1} {sp__law_draw : P1} (T : TopF K mg "_law_pairs" "_law_pairs" s__law_pairs ["_law_d", "_law_many", "_law_share"]) (B : Blt K mg) (G__law_draw : Good P w K mg base 1 "_law_draw" ["_law_d", "_law_many"] sp__law_draw) (len : ∀ ds h Q, sp ds h Q → ds.length = 3) (sat : ∀ ds h Q, sp ds h Q → rd__law_pairs sp__law_draw (endN Q) (startD 5 ds) h) : Good P w K mg base 2 "_law_pairs" ["_law_d", "_law_many", "_law_share"] sp :=
  good_ok T sc__law_pairs len (body__law_pairs B G__law_draw) sat
theorem body__law_by_rules {sp__law_agrees : P1} (B : Blt K mg) (G__law_agrees : Good P w K mg base 1 "_law_agrees" ["_law_truths", "_law_pairs_here"] sp__law_agrees) (f : Addr) (cdv : Value) (A : Around) (outer : List Env) (s : Shared) (H : Hp) (E : XK) (hr : RoomG 1 (A.deeper (envOfC "_law_by_rules" (defScope s__law_by_rules) s.heap.objs.size f cdv))) :
    DSs (cxOf CX0 P w K mg base ["_law_rules", "_law_truths", "_law_otherwise", "_law_pairs_here", "_law_number"] "_law_by_rules" (defScope s__law_by_rules) f cdv A outer s H E).nox (defBody s__law_by_rules) (rd__law_by_rules sp__law_agrees) := by
  have hu := hr.r.units
  have hu5 : (A.deeper (envOfC "_law_by_rules" (defScope s__law_by_rules) s.heap.objs.size f cdv)).units + 65 < cLine := by have := hr.r.un; omega
  exact (dss_cons (ds_for PassesOwn.never (by rfl) (di_seq (de_var 0)) (dg_tup (by rfl) (dgs_cons (dg_name 3 okAt0 sc__law_by_rules.nd rfl (by first | exact Or.inl rfl | exact Or.inr rfl)) (dgs_cons (dg_name 4 okAt0 sc__law_by_rules.nd rfl (by first | exact Or.inl rfl | exact Or.inr rfl)) dgs_nil))) (dss_one (ds_if (dt_tru (de_callG G__law_agrees hr (by omega) (by rfl) (da_cons (de_var 1) (da_cons (de_var 3) da_nil)))) (dss_one (ds_ret (de_var 4))) dss_nil)))
    (dss_one (ds_ret (de_var 2))))
theorem good__law_by_rules {sp : P1} {sp__law_agrees : P1} (T : TopF K mg "_law_by_rules" "_law_by_rules" s__law_by_rules ["_law_rules", "_law_truths", "_law_otherwise"]) (B : Blt K mg) (G__law_agrees : Good P w K mg base 1 "_law_agrees" ["_law_truths", "_law_pairs_here"] sp__law_agrees) (len : ∀ ds h Q, sp ds h Q → ds.length = 3) (sat : ∀ ds h Q, sp ds h Q → rd__law_by_rules sp__law_agrees (endN Q) (startD 5 ds) h) : Good P w K mg base 2 "_law_by_rules" ["_law_rules", "_law_truths", "_law_otherwise"] sp :=
  good_ok T sc__law_by_rules len (body__law_by_rules B G__law_agrees) sat
theorem body__law_values {sp__law_draw : P1} {sp__law_shuffled : P1} (B : Blt K mg) (G__law_draw : Good P w K mg base 1 "_law_draw" ["_law_d", "_law_many"] sp__law_draw) (G__law_shuffled : Good P w K mg base 2 "_law_shuffled" ["_law_d", "_law_row_here"] sp__law_shuffled) (f : Addr) (cdv : Value) (A : Around) (outer : List Env) (s : Shared) (H : Hp) (E : XK) (hr : RoomG 2 (A.deeper (envOfC "_law_values" (defScope s__law_values) s.heap.objs.size f cdv))) :
    DSs (cxOf CX0 P w K mg base ["_law_d", "_law_rank", "_law_rows"] "_law_values" (defScope s__law_values) f cdv A outer s H E).nox (defBody s__law_values) (rd__law_values sp__law_draw sp__law_shuffled) := by
  have hu := hr.r.units
  have hu5 : (A.deeper (envOfC "_law_values" (defScope s__law_values) s.heap.objs.size f cdv)).units + 65 < cLine := by have := hr.r.un; omega
  exact (dss_cons (ds_if (dt_cmpR (od_eq hu) (de_callG G__law_draw hr (by omega) (by rfl) (da_cons (de_var 0) (da_cons de_int da_nil))) de_int (by rfl)) (dss_one (ds_ret (de_callG G__law_shuffled hr (by omega) (by rfl) (da_cons (de_var 0) (da_cons (de_lst (da_cons de_bl (da_cons de_bl da_nil))) da_nil))))) dss_nil)
    (dss_cons (ds_set 1 sc__law_values.nd rfl (by first | exact Or.inl rfl | exact Or.inr rfl) (de_callG G__law_draw hr (by omega) (by rfl) (da_cons (de_var 0) (da_cons de_int da_nil))))
    (dss_cons (ds_set 2 sc__law_values.nd rfl (by first | exact Or.inl rfl | exact Or.inr rfl) (de_lst (da_cons (de_tup (da_cons de_str (da_cons de_int (da_cons (de_tup da_nil) (da_cons (de_tup da_nil) da_nil))))) (da_cons (de_tup (da_cons de_str (da_cons (de_var 1) (da_cons (de_tup (da_cons de_str da_nil)) (da_cons (de_tup da_nil) da_nil))))) (da_cons (de_tup (da_cons de_str (da_cons (de_op od_add (de_var 1) de_int) (da_cons (de_tup (da_cons de_str da_nil)) (da_cons (de_tup da_nil) da_nil))))) (da_cons (de_tup (da_cons de_str (da_cons (de_var 1) (da_cons (de_tup (da_cons de_str da_nil)) (da_cons (de_tup da_nil) da_nil))))) da_nil))))))
    (dss_cons (ds_set 2 sc__law_values.nd rfl (by first | exact Or.inl rfl | exact Or.inr rfl) (de_op od_add (de_var 2) (de_lst (da_cons (de_tup (da_cons de_str (da_cons (de_var 1) (da_cons (de_tup (da_cons de_str (da_cons de_str da_nil))) (da_cons (de_tup da_nil) da_nil))))) (da_cons (de_tup (da_cons de_str (da_cons (de_var 1) (da_cons (de_tup (da_cons de_str da_nil)) (da_cons (de_tup (da_cons de_str da_nil)) da_nil))))) da_nil)))))
    (dss_one (ds_ret (de_slice (de_callG G__law_shuffled hr (by omega) (by rfl) (da_cons (de_var 0) (da_cons (de_var 2) da_nil))) do_none (do_some (de_op od_add de_int (de_callG G__law_draw hr (by omega) (by rfl) (da_cons (de_var 0) (da_cons de_int da_nil))))))))))))
theorem good__law_values {sp : P1} {sp__law_draw : P1} {sp__law_shuffled : P1} (T : TopF K mg "_law_values" "_law_values" s__law_values ["_law_d"]) (B : Blt K mg) (G__law_draw : Good P w K mg base 1 "_law_draw" ["_law_d", "_law_many"] sp__law_draw) (G__law_shuffled : Good P w K mg base 2 "_law_shuffled" ["_law_d", "_law_row_here"] sp__law_shuffled) (len : ∀ ds h Q, sp ds h Q → ds.length = 1) (sat : ∀ ds h Q, sp ds h Q → rd__law_values sp__law_draw sp__law_shuffled (endN Q) (startD 3 ds) h) : Good P w K mg base 3 "_law_values" ["_law_d"] sp :=
  good_ok T sc__law_values len (body__law_values B G__law_draw G__law_shuffled) sat
theorem body__law_row {sp__law_draw : P1} {sp__law_valuations : P1} {sp__law_pairs : P1} {sp__law_by_rules : P1} (B : Blt K mg) (G__law_draw : Good P w K mg base 1 "_law_draw" ["_law_d", "_law_many"] sp__law_draw) (G__law_valuations : Good P w K mg base 1 "_law_valuations" ["_law_many"] sp__law_valuations) (G__law_pairs : Good P w K mg base 2 "_law_pairs" ["_law_d", "_law_many", "_law_share"] sp__law_pairs) (G__law_by_rules : Good P w K mg base 2 "_law_by_rules" ["_law_rules", "_law_truths", "_law_otherwise"] sp__law_by_rules) (f : Addr) (cdv : Value) (A : Around) (outer : List Env) (s : Shared) (H : Hp) (E : XK) (hr : RoomG 2 (A.deeper (envOfC "_law_row" (defScope s__law_row) s.heap.objs.size f cdv))) :
    DSs (cxOf CX0 P w K mg base ["_law_d", "_law_many", "_law_kinds", "_law_way_here", "_law_weights", "_law_worths", "_law_rows", "_law_rules", "_law_last", "_law_k", "_law_truths"] "_law_row" (defScope s__law_row) f cdv A outer s H E).nox (defBody s__law_row) (rd__law_row sp__law_draw sp__law_valuations sp__law_pairs sp__law_by_rules) := by
  have hu := hr.r.units
  have hu5 : (A.deeper (envOfC "_law_row" (defScope s__law_row) s.heap.objs.size f cdv)).units + 65 < cLine := by have := hr.r.un; omega
  exact (dss_cons (ds_set 3 sc__law_row.nd rfl (by first | exact Or.inl rfl | exact Or.inr rfl) (de_callG G__law_draw hr (by omega) (by rfl) (da_cons (de_var 0) (da_cons de_int da_nil))))
    (dss_cons (ds_if (dt_cmpR (od_eq hu) (de_var 3) de_int (by rfl)) (dss_one (ds_ret (de_lc (own := [("_law_k", 9)]) (by rfl) sc__law_row.nd (di_range1 (by rfl) B.n_range (da_cons (de_op od_shl de_int (de_var 1)) da_nil)) (blkOk_by (own := [("_law_k", 9)]) (N := ["_law_d", "_law_many", "_law_kinds", "_law_way_here", "_law_weights", "_law_worths", "_law_rows", "_law_rules", "_law_last", "_law_k", "_law_truths"]) (sc := defScope s__law_row) (by decide +kernel)) (fun _ _ _ _ _ => (dg_name 9 (okAtW (by decide)) sc__law_row.nd rfl (by first | exact Or.inl rfl | exact Or.inr rfl))) (fun _ _ _ _ _ => dts_nil) (fun _ _ _ _ _ => (de_callG G__law_draw hr (by omega) (by rfl) (da_cons (de_var 0) (da_cons (de_var 2) da_nil))))))) dss_nil)
    (dss_cons (ds_if (dt_cmpR (od_eq hu) (de_var 3) de_int (by rfl)) (dss_cons (ds_set 4 sc__law_row.nd rfl (by first | exact Or.inl rfl | exact Or.inr rfl) (de_lc (own := [("_law_k", 9)]) (by rfl) sc__law_row.nd (di_range1 (by rfl) B.n_range (da_cons (de_var 1) da_nil)) (blkOk_by (own := [("_law_k", 9)]) (N := ["_law_d", "_law_many", "_law_kinds", "_law_way_here", "_law_weights", "_law_worths", "_law_rows", "_law_rules", "_law_last", "_law_k", "_law_truths"]) (sc := defScope s__law_row) (by decide +kernel)) (fun _ _ _ _ _ => (dg_name 9 (okAtW (by decide)) sc__law_row.nd rfl (by first | exact Or.inl rfl | exact Or.inr rfl))) (fun _ _ _ _ _ => dts_nil) (fun _ _ _ _ _ => (de_callG G__law_draw hr (by omega) (by rfl) (da_cons (de_var 0) (da_cons de_int da_nil))))))
    (dss_cons (ds_set 5 sc__law_row.nd rfl (by first | exact Or.inl rfl | exact Or.inr rfl) (de_lc (own := [("_law_k", 9)]) (by rfl) sc__law_row.nd (di_range1 (by rfl) B.n_range (da_cons (de_op od_add (de_op od_mul de_int (de_var 1)) de_int) da_nil)) (blkOk_by (own := [("_law_k", 9)]) (N := ["_law_d", "_law_many", "_law_kinds", "_law_way_here", "_law_weights", "_law_worths", "_law_rows", "_law_rules", "_law_last", "_law_k", "_law_truths"]) (sc := defScope s__law_row) (by decide +kernel)) (fun _ _ _ _ _ => (dg_name 9 (okAtW (by decide)) sc__law_row.nd rfl (by first | exact Or.inl rfl | exact Or.inr rfl))) (fun _ _ _ _ _ => dts_nil) (fun _ _ _ _ _ => (de_callG G__law_draw hr (by omega) (by rfl) (da_cons (de_var 0) (da_cons (de_var 2) da_nil))))))
    (dss_cons (ds_set 6 sc__law_row.nd rfl (by first | exact Or.inl rfl | exact Or.inr rfl) (de_callG G__law_valuations hr (by omega) (by rfl) (da_cons (de_var 1) da_nil)))
    (dss_one (ds_ret (de_lc (own := [("_law_truths", 10)]) (by rfl) sc__law_row.nd (di_seq (de_var 6)) (blkOk_by (own := [("_law_truths", 10)]) (N := ["_law_d", "_law_many", "_law_kinds", "_law_way_here", "_law_weights", "_law_worths", "_law_rows", "_law_rules", "_law_last", "_law_k", "_law_truths"]) (sc := defScope s__law_row) (by decide +kernel)) (fun _ _ _ _ _ => (dg_name 10 (okAtW (by decide)) sc__law_row.nd rfl (by first | exact Or.inl rfl | exact Or.inr rfl))) (fun _ _ _ _ _ => dts_nil) (fun _ _ _ _ _ => (de_ix hu (de_var 5) (de_callB (xd_sum rfl) (by rfl) B.n_sum (by decide +kernel) (da_cons (de_lc (own := [("_law_k", 9)]) (by rfl) sc__law_row.nd (di_range1 (by rfl) B.n_range (da_cons (de_var 1) da_nil)) (blkOk_by (own := [("_law_k", 9)]) (N := ["_law_d", "_law_many", "_law_kinds", "_law_way_here", "_law_weights", "_law_worths", "_law_rows", "_law_rules", "_law_last", "_law_k", "_law_truths"]) (sc := _) (by kernel_rfl)) (fun _ _ _ _ _ => (dg_name 9 (okAtW (by decide)) sc__law_row.nd rfl (by first | exact Or.inl rfl | exact Or.inr rfl))) (fun _ _ _ _ _ => dts_nil) (fun _ _ _ _ _ => (de_op od_mul (de_ix hu (de_var 4) (de_var 9) (fun _ _ => rfl)) (de_callTy xd_int (by rfl) B.n_int (by decide +kernel) (da_cons (de_ix hu (de_var 10) (de_var 9) (fun _ _ => rfl)) da_nil))))) da_nil)) (fun _ _ => rfl))))))))) dss_nil)
    (dss_cons (ds_set 7 sc__law_row.nd rfl (by first | exact Or.inl rfl | exact Or.inr rfl) (de_lc (own := [("_law_k", 9)]) (by rfl) sc__law_row.nd (di_range1 (by rfl) B.n_range (da_cons (de_op od_add de_int (de_callG G__law_draw hr (by omega) (by rfl) (da_cons (de_var 0) (da_cons de_int da_nil)))) da_nil)) (blkOk_by (own := [("_law_k", 9)]) (N := ["_law_d", "_law_many", "_law_kinds", "_law_way_here", "_law_weights", "_law_worths", "_law_rows", "_law_rules", "_law_last", "_law_k", "_law_truths"]) (sc := defScope s__law_row) (by decide +kernel)) (fun _ _ _ _ _ => (dg_name 9 (okAtW (by decide)) sc__law_row.nd rfl (by first | exact Or.inl rfl | exact Or.inr rfl))) (fun _ _ _ _ _ => dts_nil) (fun _ _ _ _ _ => (de_tup (da_cons (de_callG G__law_pairs hr (by omega) (by rfl) (da_cons (de_var 0) (da_cons (de_var 1) (da_cons de_int da_nil)))) (da_cons (de_callG G__law_draw hr (by omega) (by rfl) (da_cons (de_var 0) (da_cons (de_var 2) da_nil))) da_nil))))))
    (dss_cons (ds_set 8 sc__law_row.nd rfl (by first | exact Or.inl rfl | exact Or.inr rfl) (de_callG G__law_draw hr (by omega) (by rfl) (da_cons (de_var 0) (da_cons (de_var 2) da_nil))))
    (dss_one (ds_ret (de_lc (own := [("_law_truths", 10)]) (by rfl) sc__law_row.nd (di_seq (de_callG G__law_valuations hr (by omega) (by rfl) (da_cons (de_var 1) da_nil))) (blkOk_by (own := [("_law_truths", 10)]) (N := ["_law_d", "_law_many", "_law_kinds", "_law_way_here", "_law_weights", "_law_worths", "_law_rows", "_law_rules", "_law_last", "_law_k", "_law_truths"]) (sc := defScope s__law_row) (by decide +kernel)) (fun _ _ _ _ _ => (dg_name 10 (okAtW (by decide)) sc__law_row.nd rfl (by first | exact Or.inl rfl | exact Or.inr rfl))) (fun _ _ _ _ _ => dts_nil) (fun _ _ _ _ _ => (de_callG G__law_by_rules hr (by omega) (by rfl) (da_cons (de_var 7) (da_cons (de_var 10) (da_cons (de_var 8) da_nil)))))))))))))
theorem good__law_row {sp : P1} {sp__law_draw : P1} {sp__law_valuations : P1} {sp__law_pairs : P1} {sp__law_by_rules : P1} (T : TopF K mg "_law_row" "_law_row" s__law_row ["_law_d", "_law_many", "_law_kinds"]) (B : Blt K mg) (G__law_draw : Good P w K mg base 1 "_law_draw" ["_law_d", "_law_many"] sp__law_draw) (G__law_valuations : Good P w K mg base 1 "_law_valuations" ["_law_many"] sp__law_valuations) (G__law_pairs : Good P w K mg base 2 "_law_pairs" ["_law_d", "_law_many", "_law_share"] sp__law_pairs) (G__law_by_rules : Good P w K mg base 2 "_law_by_rules" ["_law_rules", "_law_truths", "_law_otherwise"] sp__law_by_rules) (len : ∀ ds h Q, sp ds h Q → ds.length = 3) (sat : ∀ ds h Q, sp ds h Q → rd__law_row sp__law_draw sp__law_valuations sp__law_pairs sp__law_by_rules (endN Q) (startD 11 ds) h) : Good P w K mg base 3 "_law_row" ["_law_d", "_law_many", "_law_kinds"] sp :=
  good_ok T sc__law_row len (body__law_row B G__law_draw G__law_valuations G__law_pairs G__law_by_rules) sat
theorem body__law_same {sp__law_same : P1} (B : Blt K mg) {d : Nat} (G__law_same : Good P w K mg base (1 + d) "_law_same" ["_law_one", "_law_other"] sp__law_same) (f : Addr) (cdv : Value) (A : Around) (outer : List Env) (s : Shared) (H : Hp) (E : XK) (hr : RoomG (1 + d) (A.deeper (envOfC "_law_same" (defScope s__law_same) s.heap.objs.size f cdv))) :
    DSs (cxOf CX0 P w K mg base ["_law_one", "_law_other", "_law_k"] "_law_same" (defScope s__law_same) f cdv A outer s H E).nox (defBody s__law_same) (rd__law_same sp__law_same) := by
  have hu := hr.r.units
  have hu5 : (A.deeper (envOfC "_law_same" (defScope s__law_same) s.heap.objs.size f cdv)).units + 65 < cLine := by have := hr.r.un; omega
  exact (dss_cons (ds_if (dt_tru (de_callB xd_isi (by rfl) B.n_isinstance (by decide +kernel) (da_cons (de_var 1) (da_cons (de_ty (T := "tuple") (by rfl) B.n_tuple (by decide +kernel)) da_nil)))) (dss_cons (ds_if (dt_w (dw_or (dt_not (dt_tru (de_callB xd_isi (by rfl) B.n_isinstance (by decide +kernel) (da_cons (de_var 0) (da_cons (de_ty (T := "tuple") (by rfl) B.n_tuple (by decide +kernel)) da_nil))))) (dw_or1 (dt_cmpR (od_ne hu) (de_callB xd_len (by rfl) B.n_len (by decide +kernel) (da_cons (de_var 0) da_nil)) (de_callB xd_len (by rfl) B.n_len (by decide +kernel) (da_cons (de_var 1) da_nil)) (by rfl))))) (dss_one (ds_ret de_bl)) dss_nil)
    (dss_one (ds_ret (de_callB (xd_all rfl) (by rfl) B.n_all (by decide +kernel) (da_cons (de_lc (own := [("_law_k", 2)]) (by rfl) sc__law_same.nd (di_range1 (by rfl) B.n_range (da_cons (de_callB xd_len (by rfl) B.n_len (by decide +kernel) (da_cons (de_var 1) da_nil)) da_nil)) (blkOk_by (own := [("_law_k", 2)]) (N := ["_law_one", "_law_other", "_law_k"]) (sc := defScope s__law_same) (by decide +kernel)) (fun _ _ _ _ _ => (dg_name 2 (okAtW (by decide)) sc__law_same.nd rfl (by first | exact Or.inl rfl | exact Or.inr rfl))) (fun _ _ _ _ _ => dts_nil) (fun _ _ _ _ _ => (de_callG G__law_same hr (by omega) (by rfl) (da_cons (de_ix hu (de_var 0) (de_var 2) (fun _ _ => rfl)) (da_cons (de_ix hu (de_var 1) (de_var 2) (fun _ _ => rfl)) da_nil))))) da_nil))))) dss_nil)
    (dss_cons (ds_if (dt_cmpR od_is (de_var 1) de_non (by rfl)) (dss_one (ds_ret (de_cmpR od_is (de_var 0) de_non (by rfl)))) dss_nil)
    (dss_cons (ds_if (dt_tru (de_callB xd_isi (by rfl) B.n_isinstance (by decide +kernel) (da_cons (de_var 1) (da_cons (de_ty (T := "str") (by rfl) B.n_str (by decide +kernel)) da_nil)))) (dss_one (ds_ret (de_and (de_callB xd_isi (by rfl) B.n_isinstance (by decide +kernel) (da_cons (de_var 0) (da_cons (de_ty (T := "str") (by rfl) B.n_str (by decide +kernel)) da_nil))) (de_one (de_cmpR (od_eq hu) (de_var 0) (de_var 1) (by rfl)))))) dss_nil)
    (dss_one (ds_ret (de_and (de_callB xd_isi (by rfl) B.n_isinstance (by decide +kernel) (da_cons (de_var 0) (da_cons (de_ty (T := "int") (by rfl) B.n_int (by decide +kernel)) da_nil))) (de_and (de_cmpR (od_eq hu) (de_callB xd_isi (by rfl) B.n_isinstance (by decide +kernel) (da_cons (de_var 0) (da_cons (de_ty (T := "bool") (by rfl) B.n_bool (by decide +kernel)) da_nil))) (de_callB xd_isi (by rfl) B.n_isinstance (by decide +kernel) (da_cons (de_var 1) (da_cons (de_ty (T := "bool") (by rfl) B.n_bool (by decide +kernel)) da_nil))) (by rfl)) (de_one (de_cmpR (od_eq hu) (de_var 0) (de_var 1) (by rfl))))))))))
theorem good__law_same {sp : P1} {sp__law_same : P1} (T : TopF K mg "_law_same" "_law_same" s__law_same ["_law_one", "_law_other"]) (B : Blt K mg) {d : Nat} (G__law_same : Good P w K mg base (1 + d) "_law_same" ["_law_one", "_law_other"] sp__law_same) (len : ∀ ds h Q, sp ds h Q → ds.length = 2) (sat : ∀ ds h Q, sp ds h Q → rd__law_same sp__law_same (endN Q) (startD 3 ds) h) : Good P w K mg base (1 + d + 1) "_law_same" ["_law_one", "_law_other"] sp :=
  good_ok T sc__law_same len (body__law_same B G__law_same) sat
theorem body__law_is_there {sp__law_same : P1} {sp_Decider_wants : P1} {sp_Decider_value : P1} (B : Blt K mg) (G__law_same : Good P w K mg base 6 "_law_same" ["_law_one", "_law_other"] sp__law_same) (G_Decider_wants : PropG P w K mg base 1 "Decider" "wants" sp_Decider_wants) (G_Decider_value : PropG P w K mg base 1 "Decider" "value" sp_Decider_value) (f : Addr) (cdv : Value) (A : Around) (outer : List Env) (s : Shared) (H : Hp) (E : XK) (hr : RoomG 6 (A.deeper (envOfC "_law_is_there" (defScope s__law_is_there) s.heap.objs.size f cdv))) :
    DSs (cxOf CX0 P w K mg base ["_law_decider", "_law_way_here", "_law_at", "_law_value", "_law_looked"] "_law_is_there" (defScope s__law_is_there) f cdv A outer s H E).nox (defBody s__law_is_there) (rd__law_is_there sp__law_same sp_Decider_wants sp_Decider_value) := by
  have hu := hr.r.units
  have hu5 : (A.deeper (envOfC "_law_is_there" (defScope s__law_is_there) s.heap.objs.size f cdv)).units + 65 < cLine := by have := hr.r.un; omega
  exact (dss_cons (ds_asg (de_var 1) (dg_tup (by rfl) (dgs_cons (dg_name 3 okAt0 sc__law_is_there.nd rfl (by first | exact Or.inl rfl | exact Or.inr rfl)) (dgs_cons (dg_name 4 okAt0 sc__law_is_there.nd rfl (by first | exact Or.inl rfl | exact Or.inr rfl)) dgs_nil))))
    (dss_cons (ds_if (dt_cmpR od_lt (de_var 2) (de_callB xd_len (by rfl) B.n_len (by decide +kernel) (da_cons (de_var 4) da_nil)) (by rfl)) (dss_one (ds_ret (de_and (de_callG G__law_same hr (by omega) (by rfl) (da_cons (de_attr (de_var 0) (by rfl) hf_nil (hp_cons (G_Decider_wants.mono (by omega)) hp_nil) (hr.mono (show 2 ≤ 6 by omega))) (da_cons (de_ix hu (de_var 4) (de_var 2) (fun _ _ => rfl)) da_nil))) (de_one (de_cmpR od_is (de_attr (de_var 0) (by rfl) hf_nil (hp_cons (G_Decider_value.mono (by omega)) hp_nil) (hr.mono (show 2 ≤ 6 by omega))) de_non (by rfl)))))) dss_nil)
    (dss_one (ds_ret (de_and (de_cmpR od_is (de_attr (de_var 0) (by rfl) hf_nil (hp_cons (G_Decider_wants.mono (by omega)) hp_nil) (hr.mono (show 2 ≤ 6 by omega))) de_non (by rfl)) (de_one (de_callG G__law_same hr (by omega) (by rfl) (da_cons (de_attr (de_var 0) (by rfl) hf_nil (hp_cons (G_Decider_value.mono (by omega)) hp_nil) (hr.mono (show 2 ≤ 6 by omega))) (da_cons (de_var 3) da_nil)))))))))
theorem good__law_is_there {sp : P1} {sp__law_same : P1} {sp_Decider_wants : P1} {sp_Decider_value : P1} (T : TopF K mg "_law_is_there" "_law_is_there" s__law_is_there ["_law_decider", "_law_way_here", "_law_at"]) (B : Blt K mg) (G__law_same : Good P w K mg base 6 "_law_same" ["_law_one", "_law_other"] sp__law_same) (G_Decider_wants : PropG P w K mg base 1 "Decider" "wants" sp_Decider_wants) (G_Decider_value : PropG P w K mg base 1 "Decider" "value" sp_Decider_value) (len : ∀ ds h Q, sp ds h Q → ds.length = 3) (sat : ∀ ds h Q, sp ds h Q → rd__law_is_there sp__law_same sp_Decider_wants sp_Decider_value (endN Q) (startD 5 ds) h) : Good P w K mg base 7 "_law_is_there" ["_law_decider", "_law_way_here", "_law_at"] sp :=
  good_ok T sc__law_is_there len (body__law_is_there B G__law_same G_Decider_wants G_Decider_value) sat
theorem body__law_all_there {sp__law_is_there : P1} (B : Blt K mg) (G__law_is_there : Good P w K mg base 7 "_law_is_there" ["_law_decider", "_law_way_here", "_law_at"] sp__law_is_there) (f : Addr) (cdv : Value) (A : Around) (outer : List Env) (s : Shared) (H : Hp) (E : XK) (hr : RoomG 7 (A.deeper (envOfC "_law_all_there" (defScope s__law_all_there) s.heap.objs.size f cdv))) :
    DSs (cxOf CX0 P w K mg base ["_law_deciders", "_law_ways", "_law_places", "_law_k"] "_law_all_there" (defScope s__law_all_there) f cdv A outer s H E).nox (defBody s__law_all_there) (rd__law_all_there sp__law_is_there) := by
  have hu := hr.r.units
  have hu5 : (A.deeper (envOfC "_law_all_there" (defScope s__law_all_there) s.heap.objs.size f cdv)).units + 65 < cLine := by have := hr.r.un; omega
  exact (dss_one (ds_ret (de_callB (xd_all rfl) (by rfl) B.n_all (by decide +kernel) (da_cons (de_lc (own := [("_law_k", 3)]) (by rfl) sc__law_all_there.nd (di_range1 (by rfl) B.n_range (da_cons (de_callB xd_len (by rfl) B.n_len (by decide +kernel) (da_cons (de_var 1) da_nil)) da_nil)) (blkOk_by (own := [("_law_k", 3)]) (N := ["_law_deciders", "_law_ways", "_law_places", "_law_k"]) (sc := defScope s__law_all_there) (by decide +kernel)) (fun _ _ _ _ _ => (dg_name 3 (okAtW (by decide)) sc__law_all_there.nd rfl (by first | exact Or.inl rfl | exact Or.inr rfl))) (fun _ _ _ _ _ => dts_nil) (fun _ _ _ _ _ => (de_callG G__law_is_there hr (by omega) (by rfl) (da_cons (de_ix hu (de_var 0) (de_var 3) (fun _ _ => rfl)) (da_cons (de_ix hu (de_var 1) (de_var 3) (fun _ _ => rfl)) (da_cons (de_ix hu (de_var 2) (de_var 3) (fun _ _ => rfl)) da_nil)))))) da_nil))))
theorem good__law_all_there {sp : P1} {sp__law_is_there : P1} (T : TopF K mg "_law_all_there" "_law_all_there" s__law_all_there ["_law_deciders", "_law_ways", "_law_places"]) (B : Blt K mg) (G__law_is_there : Good P w K mg base 7 "_law_is_there" ["_law_decider", "_law_way_here", "_law_at"] sp__law_is_there) (len : ∀ ds h Q, sp ds h Q → ds.length = 3) (sat : ∀ ds h Q, sp ds h Q → rd__law_all_there sp__law_is_there (endN Q) (startD 4 ds) h) : Good P w K mg base 8 "_law_all_there" ["_law_deciders", "_law_ways", "_law_places"] sp :=
  good_ok T sc__law_all_there len (body__law_all_there B G__law_is_there) sat
theorem body__law_put {sp__law_put : P1} {sp__law_shrunk : P1} (B : Blt K mg) {d : Nat} (G__law_put : Good P w K mg base (2 + d) "_law_put" ["_law_row_here", "_law_many", "_law_values_here", "_law_nodes_here", "_law_names"] sp__law_put) (G__law_shrunk : Good P w K mg base 1 "_law_shrunk" ["_law_row_here"] sp__law_shrunk) (f : Addr) (cdv : Value) (A : Around) (outer : List Env) (s : Shared) (H : Hp) (E : XK) (hr : RoomG (2 + d) (A.deeper (envOfC "_law_put" (defScope s__law_put) s.heap.objs.size f cdv))) :
    DSs (cxOf CX0 P w K mg base ["_law_row_here", "_law_many", "_law_values_here", "_law_nodes_here", "_law_names", "_law_half", "_law_low", "_law_high"] "_law_put" (defScope s__law_put) f cdv A outer s H E).nox (defBody s__law_put) (rd__law_put sp__law_put sp__law_shrunk) := by
  have hu := hr.r.units
  have hu5 : (A.deeper (envOfC "_law_put" (defScope s__law_put) s.heap.objs.size f cdv)).units + 65 < cLine := by have := hr.r.un; omega
  exact (dss_cons (ds_if (dt_cmpR (od_in hu5) (de_var 0) (de_var 4) (by rfl)) (dss_one (ds_ret (de_ix hu (de_var 4) (de_var 0) (fun _ _ => rfl)))) dss_nil)
    (dss_cons (ds_set 5 sc__law_put.nd rfl (by first | exact Or.inl rfl | exact Or.inr rfl) (de_op od_fdiv (de_callB xd_len (by rfl) B.n_len (by decide +kernel) (da_cons (de_var 0) da_nil)) de_int))
    (dss_cons (ds_if (dt_cmpR (od_eq hu) (de_var 5) de_int (by rfl)) (dss_one (ds_expr (de_lm PySem.F.slot_list_append PySem.F.type_list_append xm_append (de_var 3) (da_cons (de_tup (da_cons de_str (da_cons (de_ix hu (de_var 2) (de_ix hu (de_var 0) de_int (fun _ _ => rfl)) (fun _ _ => rfl)) da_nil))) da_nil)))) (dss_cons (ds_set 6 sc__law_put.nd rfl (by first | exact Or.inl rfl | exact Or.inr rfl) (de_callG G__law_put hr (by omega) (by rfl) (da_cons (de_callG G__law_shrunk hr (by omega) (by rfl) (da_cons (de_slice (de_var 0) do_none (do_some (de_var 5))) da_nil)) (da_cons (de_var 1) (da_cons (de_var 2) (da_cons (de_var 3) (da_cons (de_var 4) da_nil)))))))
    (dss_cons (ds_set 7 sc__law_put.nd rfl (by first | exact Or.inl rfl | exact Or.inr rfl) (de_callG G__law_put hr (by omega) (by rfl) (da_cons (de_callG G__law_shrunk hr (by omega) (by rfl) (da_cons (de_slice (de_var 0) (do_some (de_var 5)) do_none) da_nil)) (da_cons (de_var 1) (da_cons (de_var 2) (da_cons (de_var 3) (da_cons (de_var 4) da_nil)))))))
    (dss_one (ds_expr (de_lm PySem.F.slot_list_append PySem.F.type_list_append xm_append (de_var 3) (da_cons (de_tup (da_cons (de_op od_sub (de_var 1) (de_bits (de_var 5))) (da_cons (de_var 6) (da_cons (de_var 7) da_nil)))) da_nil)))))))
    (dss_cons (ds_asg (de_op od_sub (de_callB xd_len (by rfl) B.n_len (by decide +kernel) (da_cons (de_var 3) da_nil)) de_int) (dg_sub hu (de_var 4) (de_var 0)))
    (dss_one (ds_ret (de_ix hu (de_var 4) (de_var 0) (fun _ _ => rfl))))))))
theorem good__law_put {sp : P1} {sp__law_put : P1} {sp__law_shrunk : P1} (T : TopF K mg "_law_put" "_law_put" s__law_put ["_law_row_here", "_law_many", "_law_values_here", "_law_nodes_here", "_law_names"]) (B : Blt K mg) {d : Nat} (G__law_put : Good P w K mg base (2 + d) "_law_put" ["_law_row_here", "_law_many", "_law_values_here", "_law_nodes_here", "_law_names"] sp__law_put) (G__law_shrunk : Good P w K mg base 1 "_law_shrunk" ["_law_row_here"] sp__law_shrunk) (len : ∀ ds h Q, sp ds h Q → ds.length = 5) (sat : ∀ ds h Q, sp ds h Q → rd__law_put sp__law_put sp__law_shrunk (endN Q) (startD 8 ds) h) : Good P w K mg base (2 + d + 1) "_law_put" ["_law_row_here", "_law_many", "_law_values_here", "_law_nodes_here", "_law_names"] sp :=
  good_ok T sc__law_put len (body__law_put B G__law_put G__law_shrunk) sat
theorem body__law_nodes {sp__law_put : P1} {sp__law_shrunk : P1} (B : Blt K mg) (G__law_put : Good P w K mg base 11 "_law_put" ["_law_row_here", "_law_many", "_law_values_here", "_law_nodes_here", "_law_names"] sp__law_put) (G__law_shrunk : Good P w K mg base 1 "_law_shrunk" ["_law_row_here"] sp__law_shrunk) (f : Addr) (cdv : Value) (A : Around) (outer : List Env) (s : Shared) (H : Hp) (E : XK) (hr : RoomG 11 (A.deeper (envOfC "_law_nodes" (defScope s__law_nodes) s.heap.objs.size f cdv))) :
    DSs (cxOf CX0 P w K mg base ["_law_row_here", "_law_many", "_law_values_here", "_law_nodes_here"] "_law_nodes" (defScope s__law_nodes) f cdv A outer s H E).nox (defBody s__law_nodes) (rd__law_nodes sp__law_put sp__law_shrunk) := by
  have hu := hr.r.units
  have hu5 : (A.deeper (envOfC "_law_nodes" (defScope s__law_nodes) s.heap.objs.size f cdv)).units + 65 < cLine := by have := hr.r.un; omega
  exact (dss_cons (ds_set 3 sc__law_nodes.nd rfl (by first | exact Or.inl rfl | exact Or.inr rfl) (de_lst da_nil))
    (dss_cons (ds_expr (de_callG G__law_put hr (by omega) (by rfl) (da_cons (de_callG G__law_shrunk hr (by omega) (by rfl) (da_cons (de_callTy xd_tuple (by rfl) B.n_tuple (by decide +kernel) (da_cons (de_var 0) da_nil)) da_nil)) (da_cons (de_var 1) (da_cons (de_var 2) (da_cons (de_var 3) (da_cons de_dic0 da_nil)))))))
    (dss_one (ds_ret (de_callTy xd_tuple (by rfl) B.n_tuple (by decide +kernel) (da_cons (de_var 3) da_nil))))))
theorem good__law_nodes {sp : P1} {sp__law_put : P1} {sp__law_shrunk : P1} (T : TopF K mg "_law_nodes" "_law_nodes" s__law_nodes ["_law_row_here", "_law_many", "_law_values_here"]) (B : Blt K mg) (G__law_put : Good P w K mg base 11 "_law_put" ["_law_row_here", "_law_many", "_law_values_here", "_law_nodes_here", "_law_names"] sp__law_put) (G__law_shrunk : Good P w K mg base 1 "_law_shrunk" ["_law_row_here"] sp__law_shrunk) (len : ∀ ds h Q, sp ds h Q → ds.length = 3) (sat : ∀ ds h Q, sp ds h Q → rd__law_nodes sp__law_put sp__law_shrunk (endN Q) (startD 4 ds) h) : Good P w K mg base 12 "_law_nodes" ["_law_row_here", "_law_many", "_law_values_here"] sp :=
  good_ok T sc__law_nodes len (body__law_nodes B G__law_put G__law_shrunk) sat
theorem body__law_made {sp__law_draw : P1} {sp__law_rare : P1} {sp__law_values : P1} {sp__law_row : P1} {sp__law_nodes : P1} (B : Blt K mg) (G__law_draw : Good P w K mg base 1 "_law_draw" ["_law_d", "_law_many"] sp__law_draw) (G__law_rare : Good P w K mg base 2 "_law_rare" ["_law_d", "_law_many"] sp__law_rare) (G__law_values : Good P w K mg base 3 "_law_values" ["_law_d"] sp__law_values) (G__law_row : Good P w K mg base 3 "_law_row" ["_law_d", "_law_many", "_law_kinds"] sp__law_row) (G__law_nodes : Good P w K mg base 12 "_law_nodes" ["_law_row_here", "_law_many", "_law_values_here"] sp__law_nodes) (f : Addr) (cdv : Value) (A : Around) (outer : List Env) (s : Shared) (H : Hp) (E : XK) (hr : RoomG 12 (A.deeper (envOfC "_law_made" (defScope s__law_made) s.heap.objs.size f cdv))) :
    DSs (cxOf CX0 P w K mg base ["_law_d", "_law_many", "_law_values_here", "_law_row_here"] "_law_made" (defScope s__law_made) f cdv A outer s H E).nox (defBody s__law_made) (rd__law_made sp__law_draw sp__law_rare sp__law_values sp__law_row sp__law_nodes) := by
  have hu := hr.r.units
  have hu5 : (A.deeper (envOfC "_law_made" (defScope s__law_made) s.heap.objs.size f cdv)).units + 65 < cLine := by have := hr.r.un; omega
  exact (dss_cons (ds_set 1 sc__law_made.nd rfl (by first | exact Or.inl rfl | exact Or.inr rfl) (de_callG G__law_draw hr (by omega) (by rfl) (da_cons (de_var 0) (da_cons de_int da_nil))))
    (dss_cons (ds_if (dt_tru (de_callG G__law_rare hr (by omega) (by rfl) (da_cons (de_var 0) (da_cons de_int da_nil)))) (dss_one (ds_set 1 sc__law_made.nd rfl (by first | exact Or.inl rfl | exact Or.inr rfl) (de_op od_add (de_var 1) de_int))) dss_nil)
    (dss_cons (ds_set 2 sc__law_made.nd rfl (by first | exact Or.inl rfl | exact Or.inr rfl) (de_callG G__law_values hr (by omega) (by rfl) (da_cons (de_var 0) da_nil)))
    (dss_cons (ds_set 3 sc__law_made.nd rfl (by first | exact Or.inl rfl | exact Or.inr rfl) (de_callG G__law_row hr (by omega) (by rfl) (da_cons (de_var 0) (da_cons (de_var 1) (da_cons (de_callB xd_len (by rfl) B.n_len (by decide +kernel) (da_cons (de_var 2) da_nil)) da_nil)))))
    (dss_one (ds_ret (de_tup (da_cons (de_callG G__law_nodes hr (by omega) (by rfl) (da_cons (de_var 3) (da_cons (de_var 1) (da_cons (de_var 2) da_nil)))) (da_cons (de_var 3) (da_cons (de_var 1) (da_cons (de_var 2) da_nil)))))))))))
theorem good__law_made {sp : P1} {sp__law_draw : P1} {sp__law_rare : P1} {sp__law_values : P1} {sp__law_row : P1} {sp__law_nodes : P1} (T : TopF K mg "_law_made" "_law_made" s__law_made ["_law_d"]) (B : Blt K mg) (G__law_draw : Good P w K mg base 1 "_law_draw" ["_law_d", "_law_many"] sp__law_draw) (G__law_rare : Good P w K mg base 2 "_law_rare" ["_law_d", "_law_many"] sp__law_rare) (G__law_values : Good P w K mg base 3 "_law_values" ["_law_d"] sp__law_values) (G__law_row : Good P w K mg base 3 "_law_row" ["_law_d", "_law_many", "_law_kinds"] sp__law_row) (G__law_nodes : Good P w K mg base 12 "_law_nodes" ["_law_row_here", "_law_many", "_law_values_here"] sp__law_nodes) (len : ∀ ds h Q, sp ds h Q → ds.length = 1) (sat : ∀ ds h Q, sp ds h Q → rd__law_made sp__law_draw sp__law_rare sp__law_values sp__law_row sp__law_nodes (endN Q) (startD 4 ds) h) : Good P w K mg base 13 "_law_made" ["_law_d"] sp :=
  good_ok T sc__law_made len (body__law_made B G__law_draw G__law_rare G__law_values G__law_row G__law_nodes) sat
theorem body_law {sp__law_begin : P1} {sp__law_made : P1} {sp__law_draw : P1} {sp__law_way : P1} {sp_Decider___init__ : P1} {sp__law_all_there : P1} {sp__law_pick : P1} {sp_Decider_told : P1} {sp__law_is_there : P1} {sp_decide : P1} {sp__law_same : P1} {sp__law_rising : P1} (B : Blt K mg) (G__law_begin : Good P w K mg base 1 "_law_begin" ["_law_script"] sp__law_begin) (G__law_made : Good P w K mg base 13 "_law_made" ["_law_d"] sp__law_made) (G__law_draw : Good P w K mg base 1 "_law_draw" ["_law_d", "_law_many"] sp__law_draw) (G__law_way : Good P w K mg base 1 "_law_way" ["_law_nodes_here", "_law_truths"] sp__law_way) (G_Decider___init__ : MakeG P w K mg base 1 "Decider" sp_Decider___init__) (G__law_all_there : Good P w K mg base 8 "_law_all_there" ["_law_deciders", "_law_ways", "_law_places"] sp__law_all_there) (G__law_pick : Good P w K mg base 2 "_law_pick" ["_law_d", "_law_row_here"] sp__law_pick) (G_Decider_told : MethG P w K mg base 1 "Decider" "told" sp_Decider_told) (G__law_is_there : Good P w K mg base 7 "_law_is_there" ["_law_decider", "_law_way_here", "_law_at"] sp__law_is_there) (G_decide : Good P w K mg base 1 "decide" ["table", "valuation"] sp_decide) (G__law_same : Good P w K mg base 6 "_law_same" ["_law_one", "_law_other"] sp__law_same) (G__law_rising : Good P w K mg base 1 "_law_rising" ["_law_row_here"] sp__law_rising) (f : Addr) (cdv : Value) (A : Around) (outer : List Env) (s : Shared) (H : Hp) (E : XK) (hr : RoomG 13 (A.deeper (envOfC "law" (defScope s_law) s.heap.objs.size f cdv))) :
    DSs (cxOf CX0 P w K mg base ["_law_script", "_law_d", "_law_first", "_law_second", "_law_used", "_law_sizes", "_law_rows", "_law_ways", "_law_deciders", "_law_places", "_law_turn", "_law_k", "_law_j", "_law_fresh", "_law_told", "_law_many", "_law_way_here"] "law" (defScope s_law) f cdv A outer s H E).nox (defBody s_law) (rd_law sp__law_begin sp__law_made sp__law_draw sp__law_way sp_Decider___init__ sp__law_all_there sp__law_pick sp_Decider_told sp__law_is_there sp_decide sp__law_same sp__law_rising) := by
  have hu := hr.r.units
  have hu5 : (A.deeper (envOfC "law" (defScope s_law) s.heap.objs.size f cdv)).units + 65 < cLine := by have := hr.r.un; omega
  exact (dss_cons (ds_set 1 sc_law.nd rfl (by first | exact Or.inl rfl | exact Or.inr rfl) (de_callG G__law_begin hr (by omega) (by rfl) (da_cons (de_var 0) da_nil)))
    (dss_cons (ds_set 2 sc_law.nd rfl (by first | exact Or.inl rfl | exact Or.inr rfl) (de_callG G__law_made hr (by omega) (by rfl) (da_cons (de_var 1) da_nil)))
    (dss_cons (ds_set 3 sc_law.nd rfl (by first | exact Or.inl rfl | exact Or.inr rfl) (de_callG G__law_made hr (by omega) (by rfl) (da_cons (de_var 1) da_nil)))
    (dss_cons (ds_set 4 sc_law.nd rfl (by first | exact Or.inl rfl | exact Or.inr rfl) (de_lst (da_cons (de_ix hu (de_var 2) de_int (fun _ _ => rfl)) (da_cons (de_ix hu (de_var 3) de_int (fun _ _ => rfl)) (da_cons (de_ix hu (de_var 2) de_int (fun _ _ => rfl)) da_nil)))))
    (dss_cons (ds_set 5 sc_law.nd rfl (by first | exact Or.inl rfl | exact Or.inr rfl) (de_lst (da_cons (de_ix hu (de_var 2) de_int (fun _ _ => rfl)) (da_cons (de_ix hu (de_var 3) de_int (fun _ _ => rfl)) (da_cons (de_ix hu (de_var 2) de_int (fun _ _ => rfl)) da_nil)))))
    (dss_cons (ds_set 6 sc_law.nd rfl (by first | exact Or.inl rfl | exact Or.inr rfl) (de_lc (own := [("_law_many", 15)]) (by rfl) sc_law.nd (di_seq (de_var 5)) (blkOk_by (own := [("_law_many", 15)]) (N := ["_law_script", "_law_d", "_law_first", "_law_second", "_law_used", "_law_sizes", "_law_rows", "_law_ways", "_law_deciders", "_law_places", "_law_turn", "_law_k", "_law_j", "_law_fresh", "_law_told", "_law_many", "_law_way_here"]) (sc := defScope s_law) (by decide +kernel)) (fun _ _ _ _ _ => (dg_name 15 (okAtW (by decide)) sc_law.nd rfl (by first | exact Or.inl rfl | exact Or.inr rfl))) (fun _ _ _ _ _ => dts_nil) (fun _ _ _ _ _ => (de_callTy xd_tuple (by rfl) B.n_tuple (by decide +kernel) (da_cons (de_lc (own := [("_law_k", 11)]) (by rfl) sc_law.nd (di_range1 (by rfl) B.n_range (da_cons (de_var 15) da_nil)) (blkOk_by (own := [("_law_k", 11)]) (N := ["_law_script", "_law_d", "_law_first", "_law_second", "_law_used", "_law_sizes", "_law_rows", "_law_ways", "_law_deciders", "_law_places", "_law_turn", "_law_k", "_law_j", "_law_fresh", "_law_told", "_law_many", "_law_way_here"]) (sc := _) (by kernel_rfl)) (fun _ _ _ _ _ => (dg_name 11 (okAtW (by decide)) sc_law.nd rfl (by first | exact Or.inl rfl | exact Or.inr rfl))) (fun _ _ _ _ _ => dts_nil) (fun _ _ _ _ _ => (de_cmpR (od_eq hu) (de_callG G__law_draw hr (by omega) (by rfl) (da_cons (de_var 1) (da_cons de_int da_nil))) de_int (by rfl)))) da_nil)))))
    (dss_cons (ds_set 7 sc_law.nd rfl (by first | exact Or.inl rfl | exact Or.inr rfl) (de_lc (own := [("_law_k", 11)]) (by rfl) sc_law.nd (di_range1 (by rfl) B.n_range (da_cons de_int da_nil)) (blkOk_by (own := [("_law_k", 11)]) (N := ["_law_script", "_law_d", "_law_first", "_law_second", "_law_used", "_law_sizes", "_law_rows", "_law_ways", "_law_deciders", "_law_places", "_law_turn", "_law_k", "_law_j", "_law_fresh", "_law_told", "_law_many", "_law_way_here"]) (sc := defScope s_law) (by decide +kernel)) (fun _ _ _ _ _ => (dg_name 11 (okAtW (by decide)) sc_law.nd rfl (by first | exact Or.inl rfl | exact Or.inr rfl))) (fun _ _ _ _ _ => dts_nil) (fun _ _ _ _ _ => (de_callG G__law_way hr (by omega) (by rfl) (da_cons (de_ix hu (de_var 4) (de_var 11) (fun _ _ => rfl)) (da_cons (de_ix hu (de_var 6) (de_var 11) (fun _ _ => rfl)) da_nil))))))
    (dss_cons (ds_setLc 8 (own := [("_law_k", 11)]) (by rfl) sc_law.nd rfl rfl (sw_true rfl rfl rfl (by decide +kernel)) (di_range1 (by rfl) B.n_range (da_cons de_int da_nil)) (blkOk_by (own := [("_law_k", 11)]) (N := ["_law_script", "_law_d", "_law_first", "_law_second", "_law_used", "_law_sizes", "_law_rows", "_law_ways", "_law_deciders", "_law_places", "_law_turn", "_law_k", "_law_j", "_law_fresh", "_law_told", "_law_many", "_law_way_here"]) (sc := defScope s_law) (by decide +kernel)) (fun _ _ _ _ _ => (dg_name 11 (okAtW (by decide)) sc_law.nd rfl (by first | exact Or.inl rfl | exact Or.inr rfl))) (fun _ _ _ _ _ => dts_nil) (fun _ _ _ _ _ => (de_make (G_Decider___init__.mono (by omega)) (hr.mono (show 2 ≤ 13 by omega)) (by rfl) (da_cons (de_ix hu (de_var 4) (de_var 11) (fun _ _ => rfl)) da_nil))))
    (dss_cons (ds_set 9 sc_law.nd rfl (by first | exact Or.inl rfl | exact Or.inr rfl) (de_lst (da_cons de_int (da_cons de_int (da_cons de_int da_nil)))))
    (dss_cons (ds_for PassesOwn.never (by rfl) (di_range1 (by rfl) B.n_range (da_cons (de_callB (xd_sum rfl) (by rfl) B.n_sum (by decide +kernel) (da_cons (de_lc (own := [("_law_way_here", 16)]) (by rfl) sc_law.nd (di_seq (de_var 7)) (blkOk_by (own := [("_law_way_here", 16)]) (N := ["_law_script", "_law_d", "_law_first", "_law_second", "_law_used", "_law_sizes", "_law_rows", "_law_ways", "_law_deciders", "_law_places", "_law_turn", "_law_k", "_law_j", "_law_fresh", "_law_told", "_law_many", "_law_way_here"]) (sc := defScope s_law) (by decide +kernel)) (fun _ _ _ _ _ => (dg_name 16 (okAtW (by decide)) sc_law.nd rfl (by first | exact Or.inl rfl | exact Or.inr rfl))) (fun _ _ _ _ _ => dts_nil) (fun _ _ _ _ _ => (de_callB xd_len (by rfl) B.n_len (by decide +kernel) (da_cons (de_ix hu (de_var 16) de_int (fun _ _ => rfl)) da_nil)))) da_nil)) da_nil)) (dg_name 10 okAt0 sc_law.nd rfl (by first | exact Or.inl rfl | exact Or.inr rfl)) (dss_cons (ds_if (dt_not (dt_tru (de_callG G__law_all_there hr (by omega) (by rfl) (da_cons (de_var 8) (da_cons (de_var 7) (da_cons (de_var 9) da_nil)))))) (dss_one (ds_ret de_bl)) dss_nil)
    (dss_cons (ds_set 11 sc_law.nd rfl (by first | exact Or.inl rfl | exact Or.inr rfl) (de_callG G__law_pick hr (by omega) (by rfl) (da_cons (de_var 1) (da_cons (de_lc (own := [("_law_j", 12)]) (by rfl) sc_law.nd (di_range1 (by rfl) B.n_range (da_cons de_int da_nil)) (blkOk_by (own := [("_law_j", 12)]) (N := ["_law_script", "_law_d", "_law_first", "_law_second", "_law_used", "_law_sizes", "_law_rows", "_law_ways", "_law_deciders", "_law_places", "_law_turn", "_law_k", "_law_j", "_law_fresh", "_law_told", "_law_many", "_law_way_here"]) (sc := defScope s_law) (by decide +kernel)) (fun _ _ _ _ _ => (dg_name 12 (okAtW (by decide)) sc_law.nd rfl (by first | exact Or.inl rfl | exact Or.inr rfl))) (fun _ _ _ _ _ => (dts_one (dt_cmpR od_lt (de_ix hu (de_var 9) (de_var 12) (fun _ _ => rfl)) (de_callB xd_len (by rfl) B.n_len (by decide +kernel) (da_cons (de_ix hu (de_ix hu (de_var 7) (de_var 12) (fun _ _ => rfl)) de_int (fun _ _ => rfl)) da_nil)) (by rfl)))) (fun _ _ _ _ _ => (de_var 12))) da_nil))))
    (dss_cons (ds_if (dt_cmpR od_isnot (de_meth (m := "told") (de_ix hu (de_var 8) (de_var 11) (fun _ _ => rfl)) (hm_cons (G_Decider_told.mono (by omega)) hm_nil) (hr.mono (show 13 ≤ 13 by omega)) (da_cons (de_ix hu (de_ix hu (de_var 6) (de_var 11) (fun _ _ => rfl)) (de_ix hu (de_ix hu (de_ix hu (de_var 7) (de_var 11) (fun _ _ => rfl)) de_int (fun _ _ => rfl)) (de_ix hu (de_var 9) (de_var 11) (fun _ _ => rfl)) (fun _ _ => rfl)) (fun _ _ => rfl)) da_nil)) de_non (by rfl)) (dss_one (ds_ret de_bl)) dss_nil)
    (dss_cons (ds_augS hu (de_var 9) (de_var 11) de_int xd_iadd)
    (dss_one (ds_for PassesOwn.never (by rfl) (di_range1 (by rfl) B.n_range (da_cons de_int da_nil)) (dg_name 12 okAt0 sc_law.nd rfl (by first | exact Or.inl rfl | exact Or.inr rfl)) (dss_one (ds_if (dt_w (dw_and (dt_cmpR (od_eq hu) (de_ix hu (de_var 9) (de_var 12) (fun _ _ => rfl)) (de_callB xd_len (by rfl) B.n_len (by decide +kernel) (da_cons (de_ix hu (de_ix hu (de_var 7) (de_var 12) (fun _ _ => rfl)) de_int (fun _ _ => rfl)) da_nil)) (by rfl)) (dw_and1 (dt_cmpR od_isnot (de_meth (m := "told") (de_ix hu (de_var 8) (de_var 12) (fun _ _ => rfl)) (hm_cons (G_Decider_told.mono (by omega)) hm_nil) (hr.mono (show 13 ≤ 13 by omega)) (da_cons (de_cmpR (od_eq hu) (de_callG G__law_draw hr (by omega) (by rfl) (da_cons (de_var 1) (da_cons de_int da_nil))) de_int (by rfl)) da_nil)) de_non (by rfl))))) (dss_one (ds_ret de_bl)) dss_nil)))))))))
    (dss_cons (ds_for PassesOwn.never (by rfl) (di_range1 (by rfl) B.n_range (da_cons de_int da_nil)) (dg_name 11 okAt0 sc_law.nd rfl (by first | exact Or.inl rfl | exact Or.inr rfl)) (dss_one (ds_if (dt_cmpR od_isnot (de_meth (m := "told") (de_ix hu (de_var 8) (de_var 11) (fun _ _ => rfl)) (hm_cons (G_Decider_told.mono (by omega)) hm_nil) (hr.mono (show 13 ≤ 13 by omega)) (da_cons (de_cmpR (od_eq hu) (de_callG G__law_draw hr (by omega) (by rfl) (da_cons (de_var 1) (da_cons de_int da_nil))) de_int (by rfl)) da_nil)) de_non (by rfl)) (dss_one (ds_ret de_bl)) dss_nil)))
    (dss_cons (ds_if (dt_not (dt_tru (de_callG G__law_all_there hr (by omega) (by rfl) (da_cons (de_var 8) (da_cons (de_var 7) (da_cons (de_var 9) da_nil)))))) (dss_one (ds_ret de_bl)) dss_nil)
    (dss_cons (ds_set 13 sc_law.nd rfl (by first | exact Or.inl rfl | exact Or.inr rfl) (de_make (G_Decider___init__.mono (by omega)) (hr.mono (show 2 ≤ 13 by omega)) (by rfl) (da_cons (de_ix hu (de_var 4) de_int (fun _ _ => rfl)) da_nil)))
    (dss_cons (ds_if (dt_w (dw_or (dt_not (dt_tru (de_callG G__law_is_there hr (by omega) (by rfl) (da_cons (de_var 13) (da_cons (de_ix hu (de_var 7) de_int (fun _ _ => rfl)) (da_cons de_int da_nil)))))) (dw_or1 (dt_not (dt_tru (de_callG G__law_all_there hr (by omega) (by rfl) (da_cons (de_var 8) (da_cons (de_var 7) (da_cons (de_var 9) da_nil))))))))) (dss_one (ds_ret de_bl)) dss_nil)
    (dss_cons (ds_for PassesOwn.never (by rfl) (di_range1 (by rfl) B.n_range (da_cons de_int da_nil)) (dg_name 11 okAt0 sc_law.nd rfl (by first | exact Or.inl rfl | exact Or.inr rfl)) (dss_cons (ds_set 14 sc_law.nd rfl (by first | exact Or.inl rfl | exact Or.inr rfl) (de_callG G_decide hr (by omega) (by rfl) (da_cons (de_ix hu (de_var 4) (de_var 11) (fun _ _ => rfl)) (da_cons (de_ix hu (de_var 6) (de_var 11) (fun _ _ => rfl)) da_nil))))
    (dss_one (ds_if (dt_w (dw_or (dt_not (dt_tru (de_callG G__law_same hr (by omega) (by rfl) (da_cons (de_var 14) (da_cons (de_ix hu (de_var 7) (de_var 11) (fun _ _ => rfl)) da_nil))))) (dw_or1 (dt_not (dt_tru (de_callG G__law_rising hr (by omega) (by rfl) (da_cons (de_ix hu (de_var 14) de_int (fun _ _ => rfl)) da_nil))))))) (dss_one (ds_ret de_bl)) dss_nil))))
    (dss_one (ds_ret de_bl)))))))))))))))))
theorem fn_law {sp : P1} {sp__law_begin : P1} {sp__law_made : P1} {sp__law_draw : P1} {sp__law_way : P1} {sp_Decider___init__ : P1} {sp__law_all_there : P1} {sp__law_pick : P1} {sp_Decider_told : P1} {sp__law_is_there : P1} {sp_decide : P1} {sp__law_same : P1} {sp__law_rising : P1} {f : Addr} {fd : FuncData} (F : Fun K "law" "law" s_law f fd) (B : Blt K mg) (G__law_begin : Good P w K mg base 1 "_law_begin" ["_law_script"] sp__law_begin) (G__law_made : Good P w K mg base 13 "_law_made" ["_law_d"] sp__law_made) (G__law_draw : Good P w K mg base 1 "_law_draw" ["_law_d", "_law_many"] sp__law_draw) (G__law_way : Good P w K mg base 1 "_law_way" ["_law_nodes_here", "_law_truths"] sp__law_way) (G_Decider___init__ : MakeG P w K mg base 1 "Decider" sp_Decider___init__) (G__law_all_there : Good P w K mg base 8 "_law_all_there" ["_law_deciders", "_law_ways", "_law_places"] sp__law_all_there) (G__law_pick : Good P w K mg base 2 "_law_pick" ["_law_d", "_law_row_here"] sp__law_pick) (G_Decider_told : MethG P w K mg base 1 "Decider" "told" sp_Decider_told) (G__law_is_there : Good P w K mg base 7 "_law_is_there" ["_law_decider", "_law_way_here", "_law_at"] sp__law_is_there) (G_decide : Good P w K mg base 1 "decide" ["table", "valuation"] sp_decide) (G__law_same : Good P w K mg base 6 "_law_same" ["_law_one", "_law_other"] sp__law_same) (G__law_rising : Good P w K mg base 1 "_law_rising" ["_law_row_here"] sp__law_rising) (len : ∀ ds h Q, sp ds h Q → ds.length = 1) (sat : ∀ ds h Q, sp ds h Q → rd_law sp__law_begin sp__law_made sp__law_draw sp__law_way sp_Decider___init__ sp__law_all_there sp__law_pick sp_Decider_told sp__law_is_there sp_decide sp__law_same sp__law_rising (endN Q) (startD 17 ds) h) : FnG P w K mg base 14 f fd ["_law_script"] (lowP ⟨K, w, mg⟩ sp) :=
  df_ok F sc_law len fun cdv A outer s H E hr => ⟨_, body_law B G__law_begin G__law_made G__law_draw G__law_way G_Decider___init__ G__law_all_there G__law_pick G_Decider_told G__law_is_there G_decide G__law_same G__law_rising f cdv A outer s H E hr, sat⟩
end
end DL
namespace DL
open PySem PySem.Spec PyProof.Rows L2
local macro_rules | `(tactic| walk_at "ev") => `(tactic| try simp only [e_seq, e_next, e_brk, e_cnt, e_drop, e_ret, e_retN, e_ifS, e_asg, e_gN, e_gSb, e_gTp, e_gCn, e_gNl, e_var, e_varK, e_nth0, e_nthS, e_put0, e_putS, e_c, e_op, e_un, e_call, e_nil, e_cons, e_tup, e_lst, e_test, e_asB, e_tru, e_andT, e_orT, e_notT, e_andV, e_orV, e_notV, e_if, e_aug, e_augS, e_sl, e_part, e_partK, e_noPart, e_bm0, e_bm, e_join, e_yes, e_wipe0, e_wipeS, e_lc, e_for, v_add, v_addS, v_addT, v_iadd, v_sub, v_mul, v_fdiv, v_mod, v_pow, v_shl, v_shr, v_neg, v_lt, v_le, v_gt, v_ge, v_eqI, v_neI, v_eqS, v_neS, v_inS, v_ninS, v_inT, v_ninT, v_inR, v_ninR, v_inSeq, v_seqO, v_seqR, v_seqT, v_seqL, v_ixR, v_ixT, v_ixL, v_ixS, v_atK, v_atSK, v_get, v_getL, v_getK, v_set, v_setL, v_setK, v_on1, v_on2, v_lenR, v_lenT, v_lenL, v_lenS, v_seqK, v_tuple, v_list, v_abs, v_intI, v_intB, v_okL, v_isLst, v_app, v_lstK, v_slS, v_slT, v_join, v_is, v_isnot, v_max, v_min, v_iSeq, v_srcT, v_srcL, v_srcS, v_srcR, v_srcO, v_iRg1, v_rg1, v_truN, v_truB, v_truI, v_truS, v_truR, v_truT, v_truRol, v_truL, v_inRol, v_ninRol, v_inO, v_inOd, v_inDic, v_ixO, v_ixOd, v_ixSeq, v_ixDic, v_dgetK, v_ixStr, v_getO, v_getOd, v_setO, v_setOd, v_setDic, v_lenO, v_lenOd, e_dic0, e_disp, e_pairs0, e_pairsS, e_chain, v_bits, v_iRg3, v_rg3, v_iRg2, v_rg2, v_iEn, v_enT, v_enR, v_enO, v_iZp, v_zpT, v_zpR, v_zpO, v_repr, v_strI, v_strS, v_addR, v_and, v_slR, v_slL, v_ltS, v_srtT, v_srtR, v_srtO, v_srtD, v_revR, v_revT, v_isB, v_iZs, v_zsT, e_split, v_split, v_words, v_index, v_eqIS, v_neIS, v_eqB, v_neB])
theorem ixN5_1 : ixN 5 1 = some 1 := by decide
theorem ixN5_2 : ixN 5 2 = some 2 := by decide
theorem ixN5_3 : ixN 5 3 = some 3 := by decide
theorem CPow_a : CPow 10 18 := by unfold CPow; decide
theorem CPow_b : CPow 1 6000 := by unfold CPow; decide
theorem pow6000 : (0:Int) < 1 * 2 ^ Int.toNat 6000 := by rw [Int.one_mul]; exact Int.pow_pos (by decide)
theorem len__law_draw : ∀ ds h Q, sp__law_draw ds h Q → ds.length = 2 := fun ds h Q ⟨a, c, cs, many, e, _⟩ => by rw [e]; rfl
section
variable {Q : KD} {h0 : MH} {a c : Addr} {cs : List Int} {many : Int}
/-- what the draw's end wants -/
def DrFin (Q : KD) (h0 : MH) (a c : Addr) (many : Int) : Prop := ∀ (x p acc r : Int), 0 ≤ p → Lh Q (.int (x % many)) (up h0 a (.lst [.ref c, .int p, .int acc, .int r, .int 3]))
theorem draw_5 (hm : 0 < many) (q : DrFin Q h0 a c many) {x y : Option D} {size p acc r : Int} (hp : 0 ≤ p) : rd__law_draw_5 (endN Q) [some (.ref a), some (.int many), x, some (.int size), y] (up h0 a (.lst [.ref c, .int p, .int acc, .int r, .int 3])) := by
  unfold rd__law_draw_5 rd__law_draw_6
  walk_at "ev"
  simp only [up_same, up_up, v_ixO, v_ixO, v_ixSeq, atI_1, atI_3, v_atK, v_mul, v_add, v_mod, v_intI, v_setO, v_setL, List.length_cons, List.length_nil, Nat.reduceAdd, ixN5_3, v_setK, List.set_cons_succ, List.set_cons_zero, v_fdiv]
  refine ⟨mulOk_r (by decide), by decide, mulOk_r (by decide), mulOk_r (by decide), by decide, divOk_16, hm, q _ _ _ _ hp⟩
theorem draw_4 (hm : 0 < many) (hm2 : many < 2 ^ 64) (q : DrFin Q h0 a c many) {x y : Option D} {size p acc r : Int} (hp : 0 ≤ p) : rd__law_draw_4 (endN Q) [some (.ref a), some (.int many), x, some (.int size), y] (up h0 a (.lst [.ref c, .int p, .int acc, .int r, .int 3])) := by
  unfold rd__law_draw_4
  walk_at "ev"
  refine ⟨CPow_a, mulOk_l (by decide), ?_⟩
  split
  · refine ⟨divOk_2, CPow_b, pow6000, divOk_of hm hm2, ?_⟩
    simp only [up_same, up_up, v_ixO, v_setO, v_setL, List.length_cons, List.length_nil, Nat.reduceAdd, ixN5_2, v_setK, List.set_cons_succ, List.set_cons_zero]
    exact ⟨hm, q _ _ _ _ hp⟩
  · exact draw_5 hm q hp
theorem draw_3 (hm : 0 < many) (hm2 : many < 2 ^ 64) (q : DrFin Q h0 a c many) {x y : Option D} {size p acc r : Int} (hp : 0 ≤ p) (ha : h0 a = some (.lst [.ref c, .int p, .int acc, .int r, .int 3])) : rd__law_draw_3 (endN Q) [some (.ref a), some (.int many), x, some (.int size), y] h0 := by
  unfold rd__law_draw_3
  walk_at "ev"
  simp only [ha, v_getO, v_getL, atI_1, v_getK, v_iadd, v_setO, v_setL, List.length_cons, List.length_nil, Nat.reduceAdd, ixN5_1, v_setK, List.set_cons_succ, List.set_cons_zero]
  exact ⟨by decide, draw_4 hm hm2 q (by omega)⟩
end
theorem sat__law_draw : ∀ ds h Q, sp__law_draw ds h Q → rd__law_draw (endN Q) (startD 5 ds) h := by
  rintro ds h Q ⟨a, c, cs, many, rfl, hm, hm2, d, q⟩
  obtain ⟨⟨o, ha, p, acc, r, hp, rfl⟩, hc⟩ := id d
  have dv := divOk_of hm hm2
  have fin : DrFin Q h a c many := fun x p' acc' r' hp' =>
    lh_of (q _ _ (Int.emod_nonneg _ (by omega)) (Int.emod_lt_of_pos _ hm) ⟨p', acc', r', hp', rfl⟩)
  show rd__law_draw (endN Q) [some (.ref a), some (.int many), none, none, none] h
  unfold rd__law_draw
  walk_at "ev"
  simp only [ha, atI_2, v_ixO, v_ixO, v_ixSeq, v_atK, v_gt, e_asB, decide_eq_true_eq]
  split
  · walk_at "ev"
    simp only [ha, v_setO, v_setL, List.length_cons, List.length_nil, Nat.reduceAdd, ixN5_2, v_setK, List.set_cons_succ, List.set_cons_zero, dv, hm, true_and]
    exact fin _ _ _ _ hp
  · unfold rd__law_draw_1 rd__law_draw_2
    walk_at "ev"
    simp only [ha, hc, atI_z, atI_1, v_ixO, v_ixO, v_ixSeq, v_atK, v_lenR, v_lenO, v_lt, e_asB, decide_eq_true_eq, List.length_map]
    split
    · rename_i hlt
      obtain ⟨j, rfl⟩ := Int.eq_ofNat_of_zero_le hp
      have hj : j < cs.length := by omega
      simp only [ha, hc, atI_z, atI_1, v_ixO, v_ixO, v_ixSeq, v_atK, v_ixR, atI_of rfl (show (cs.map D.int)[j]? = some (.int cs[j]) by rw [List.getElem?_map, List.getElem?_eq_getElem hj]; rfl), v_abs, v_mul, v_lt, v_intB, v_add]
      exact ⟨mulOk_l (by decide), draw_3 hm hm2 fin hp ha⟩
    · exact draw_3 hm hm2 fin hp ha
end DL
namespace DL
open PySem PySem.Spec PyProof.Rows L2
local macro_rules | `(tactic| walk_at "ev") => `(tactic| try simp only [e_seq, e_next, e_brk, e_cnt, e_drop, e_ret, e_retN, e_ifS, e_asg, e_gN, e_gSb, e_gTp, e_gCn, e_gNl, e_var, e_varK, e_nth0, e_nthS, e_put0, e_putS, e_c, e_op, e_un, e_call, e_nil, e_cons, e_tup, e_lst, e_test, e_asB, e_tru, e_andT, e_orT, e_notT, e_andV, e_orV, e_notV, e_if, e_aug, e_augS, e_sl, e_part, e_partK, e_noPart, e_bm0, e_bm, e_join, e_yes, e_wipe0, e_wipeS, e_lc, e_for, v_add, v_addS, v_addT, v_iadd, v_sub, v_mul, v_fdiv, v_mod, v_pow, v_shl, v_shr, v_neg, v_lt, v_le, v_gt, v_ge, v_eqI, v_neI, v_eqS, v_neS, v_inS, v_ninS, v_inT, v_ninT, v_inR, v_ninR, v_inSeq, v_seqO, v_seqR, v_seqT, v_seqL, v_ixR, v_ixT, v_ixL, v_ixS, v_atK, v_atSK, v_get, v_getL, v_getK, v_set, v_setL, v_setK, v_on1, v_on2, v_lenR, v_lenT, v_lenL, v_lenS, v_seqK, v_tuple, v_list, v_abs, v_intI, v_intB, v_okL, v_isLst, v_app, v_lstK, v_slS, v_slT, v_join, v_is, v_isnot, v_max, v_min, v_iSeq, v_srcT, v_srcL, v_srcS, v_srcR, v_srcO, v_iRg1, v_rg1, v_truN, v_truB, v_truI, v_truS, v_truR, v_truT, v_truRol, v_truL, v_inRol, v_ninRol, v_inO, v_inOd, v_inDic, v_ixO, v_ixOd, v_ixSeq, v_ixDic, v_dgetK, v_ixStr, v_getO, v_getOd, v_setO, v_setOd, v_setDic, v_lenO, v_lenOd, e_dic0, e_disp, e_pairs0, e_pairsS, e_chain, v_bits, v_iRg3, v_rg3, v_iRg2, v_rg2, v_iEn, v_enT, v_enR, v_enO, v_iZp, v_zpT, v_zpR, v_zpO, v_repr, v_strI, v_strS, v_addR, v_and, v_slR, v_slL, v_ltS, v_srtT, v_srtR, v_srtO, v_srtD, v_revR, v_revT, v_isB, v_iZs, v_zsT, e_split, v_split, v_words, v_index, v_eqIS, v_neIS, v_eqB, v_neB])
theorem len__law_begin : ∀ ds h Q, sp__law_begin ds h Q → ds.length = 1 := fun ds h Q ⟨cs, e, _⟩ => by rw [e]; rfl
theorem sat__law_begin : ∀ ds h Q, sp__law_begin ds h Q → rd__law_begin (endN Q) (startD 2 ds) h := by
  rintro ds h Q ⟨cs, rfl, hl, q⟩
  show rd__law_begin (endN Q) [some (.rol (cs.map D.int)), none] h
  unfold rd__law_begin
  walk_at "ev"
  refine ⟨by rw [List.length_map]; exact Nat.le_trans hl (by decide), fun i acc hh => hh = h ∧ acc = (cs.take i).map D.int, ⟨h, le.refl, rfl, rfl⟩, fun _ _ _ _ => trivial, ?_, ?_⟩
  · rintro i x acc hh hx ⟨rfl, rfl⟩
    rw [List.getElem?_map] at hx
    obtain ⟨n, hn, rfl⟩ := Option.map_eq_some_iff.mp hx
    walk_at "ev"
    rw [if_pos trivial]
    refine ⟨hh, le.refl, rfl, ?_⟩
    obtain ⟨hlt, e⟩ := List.getElem?_eq_some_iff.mp hn
    rw [List.take_succ_eq_append_getElem hlt, List.map_append, e]; rfl
  · rintro acc hh ⟨rfl, rfl⟩ p np
    walk_at "ev"
    refine ⟨by show 5 ≤ sizeLine; decide, fun a na => ?_⟩
    rw [List.length_map, List.take_length]
    have npa : a ≠ p := fun z => by rw [z, up_same] at na; cases na
    exact lh_of (q a p _ (by rw [up_ne npa] at na; exact na) np npa ⟨0, 0, 7, by decide, rfl⟩)
end DL
namespace DL
open PySem PySem.Spec PyProof.Rows L2
local macro_rules | `(tactic| walk_at "ev") => `(tactic| try simp only [e_seq, e_next, e_brk, e_cnt, e_drop, e_ret, e_retN, e_ifS, e_asg, e_gN, e_gSb, e_gTp, e_gCn, e_gNl, e_var, e_varK, e_nth0, e_nthS, e_put0, e_putS, e_c, e_op, e_un, e_call, e_nil, e_cons, e_tup, e_lst, e_test, e_asB, e_tru, e_andT, e_orT, e_notT, e_andV, e_orV, e_notV, e_if, e_aug, e_augS, e_sl, e_part, e_partK, e_noPart, e_bm0, e_bm, e_join, e_yes, e_wipe0, e_wipeS, e_lc, e_for, v_add, v_addS, v_addT, v_iadd, v_sub, v_mul, v_fdiv, v_mod, v_pow, v_shl, v_shr, v_neg, v_lt, v_le, v_gt, v_ge, v_eqI, v_neI, v_eqS, v_neS, v_inS, v_ninS, v_inT, v_ninT, v_inR, v_ninR, v_inSeq, v_seqO, v_seqR, v_seqT, v_seqL, v_ixR, v_ixT, v_ixL, v_ixS, v_atK, v_atSK, v_get, v_getL, v_getK, v_set, v_setL, v_setK, v_on1, v_on2, v_lenR, v_lenT, v_lenL, v_lenS, v_seqK, v_tuple, v_list, v_abs, v_intI, v_intB, v_okL, v_isLst, v_app, v_lstK, v_slS, v_slT, v_join, v_is, v_isnot, v_max, v_min, v_iSeq, v_srcT, v_srcL, v_srcS, v_srcR, v_srcO, v_iRg1, v_rg1, v_truN, v_truB, v_truI, v_truS, v_truR, v_truT, v_truRol, v_truL, v_inRol, v_ninRol, v_inO, v_inOd, v_inDic, v_ixO, v_ixOd, v_ixSeq, v_ixDic, v_dgetK, v_ixStr, v_getO, v_getOd, v_setO, v_setOd, v_setDic, v_lenO, v_lenOd, e_dic0, e_disp, e_pairs0, e_pairsS, e_chain, v_bits, v_iRg3, v_rg3, v_iRg2, v_rg2, v_iEn, v_enT, v_enR, v_enO, v_iZp, v_zpT, v_zpR, v_zpO, v_repr, v_strI, v_strS, v_addR, v_and, v_slR, v_slL, v_ltS, v_srtT, v_srtR, v_srtO, v_srtD, v_revR, v_revT, v_isB, v_iZs, v_zsT, e_split, v_split, v_words, v_index, v_eqIS, v_neIS, v_eqB, v_neB])
theorem len__law_pick : ∀ ds h Q, sp__law_pick ds h Q → ds.length = 2 := fun ds h Q ⟨a, c, cs, row, xs, e, _⟩ => by rw [e]; rfl
theorem sat__law_pick : ∀ ds h Q, sp__law_pick ds h Q → rd__law_pick sp__law_draw (endN Q) (startD 2 ds) h := by
  rintro ds h Q ⟨a, c, cs, row, xs, rfl, d, hr, hne, hx, hl, q⟩
  show rd__law_pick sp__law_draw (endN Q) [some (.ref a), some row] h
  unfold rd__law_pick
  walk_at "ev"
  refine len_row hr ?_
  have hp : 0 < xs.length := List.length_pos_iff.mpr hx
  refine ⟨a, c, cs, _, rfl, by omega, by omega, d, fun r o h0 h1 k => ?_⟩
  obtain ⟨j, rfl⟩ := Int.eq_ofNat_of_zero_le h0
  have hj : j < xs.length := by omega
  have hr' : rowOf (up h a o) row = some xs := by
    cases row <;> try exact hr
    case ref l =>
      have : l ≠ a := fun z => hne (by rw [z])
      show seqO (up h a o l) = some xs
      rw [up_ne this]; exact hr
  exact ix_row hr' (List.getElem?_eq_getElem hj) (lh_of (q _ o (List.getElem_mem hj) k))
end DL
namespace DL
open PySem PySem.Spec PyProof.Rows L2
local macro_rules | `(tactic| walk_at "ev") => `(tactic| try simp only [e_seq, e_next, e_brk, e_cnt, e_drop, e_ret, e_retN, e_ifS, e_asg, e_gN, e_gSb, e_gTp, e_gCn, e_gNl, e_var, e_varK, e_nth0, e_nthS, e_put0, e_putS, e_c, e_op, e_un, e_call, e_nil, e_cons, e_tup, e_lst, e_test, e_asB, e_tru, e_andT, e_orT, e_notT, e_andV, e_orV, e_notV, e_if, e_aug, e_augS, e_sl, e_part, e_partK, e_noPart, e_bm0, e_bm, e_join, e_yes, e_wipe0, e_wipeS, e_lc, e_for, v_add, v_addS, v_addT, v_iadd, v_sub, v_mul, v_fdiv, v_mod, v_pow, v_shl, v_shr, v_neg, v_lt, v_le, v_gt, v_ge, v_eqI, v_neI, v_eqS, v_neS, v_inS, v_ninS, v_inT, v_ninT, v_inR, v_ninR, v_inSeq, v_seqO, v_seqR, v_seqT, v_seqL, v_ixR, v_ixT, v_ixL, v_ixS, v_atK, v_atSK, v_get, v_getL, v_getK, v_set, v_setL, v_setK, v_on1, v_on2, v_lenR, v_lenT, v_lenL, v_lenS, v_seqK, v_tuple, v_list, v_abs, v_intI, v_intB, v_okL, v_isLst, v_app, v_lstK, v_slS, v_slT, v_join, v_is, v_isnot, v_max, v_min, v_iSeq, v_srcT, v_srcL, v_srcS, v_srcR, v_srcO, v_iRg1, v_rg1, v_truN, v_truB, v_truI, v_truS, v_truR, v_truT, v_truRol, v_truL, v_inRol, v_ninRol, v_inO, v_inOd, v_inDic, v_ixO, v_ixOd, v_ixSeq, v_ixDic, v_dgetK, v_ixStr, v_getO, v_getOd, v_setO, v_setOd, v_setDic, v_lenO, v_lenOd, e_dic0, e_disp, e_pairs0, e_pairsS, e_chain, v_bits, v_iRg3, v_rg3, v_iRg2, v_rg2, v_iEn, v_enT, v_enR, v_enO, v_iZp, v_zpT, v_zpR, v_zpO, v_repr, v_strI, v_strS, v_addR, v_and, v_slR, v_slL, v_ltS, v_srtT, v_srtR, v_srtO, v_srtD, v_revR, v_revT, v_isB, v_iZs, v_zsT, e_split, v_split, v_words, v_index, v_eqIS, v_neIS, v_eqB, v_neB])
def sp__law_rare : P1 := fun ds h Q => ∃ a c cs many, ds = [.ref a, .int many] ∧ 0 < many ∧ many < 2 ^ 64 ∧ Dr a c cs h ∧ ∀ b o, DrO c o → Q (.bool b) (up h a o)
theorem len__law_rare : ∀ ds h Q, sp__law_rare ds h Q → ds.length = 2 := fun ds h Q ⟨a, c, cs, m, e, _⟩ => by rw [e]; rfl
theorem sat__law_rare : ∀ ds h Q, sp__law_rare ds h Q → rd__law_rare sp__law_draw (endN Q) (startD 2 ds) h := by
  rintro ds h Q ⟨a, c, cs, many, rfl, hm, hm2, d, q⟩
  show rd__law_rare sp__law_draw (endN Q) [some (.ref a), some (.int many)] h
  unfold rd__law_rare
  walk_at "ev"
  exact ⟨a, c, cs, many, rfl, hm, hm2, d, fun r o _ _ k => ⟨divOk_of (by decide) (by decide), lh_of (q _ o k)⟩⟩
theorem LV.rare {h hh : MH} {a c : Addr} {cs : List Int} {ws : List (Addr × MO)} {Q : KD} (L : LV h a c cs hh ws) {n : Int} (hn : 0 < n) (hn2 : n < 2 ^ 64) (q : ∀ b h1, LV h a c cs h1 ws → Q (.bool b) h1) : sp__law_rare [.ref a, .int n] hh Q :=
  ⟨a, c, cs, n, rfl, hn, hn2, L.dr, fun b o k => q b _ (L.drawn k)⟩
end DL
namespace DL
open PySem PySem.Spec PyProof.Rows L2
local macro_rules | `(tactic| walk_at "ev") => `(tactic| try simp only [e_seq, e_next, e_brk, e_cnt, e_drop, e_ret, e_retN, e_ifS, e_asg, e_gN, e_gSb, e_gTp, e_gCn, e_gNl, e_var, e_varK, e_nth0, e_nthS, e_put0, e_putS, e_c, e_op, e_un, e_call, e_nil, e_cons, e_tup, e_lst, e_test, e_asB, e_tru, e_andT, e_orT, e_notT, e_andV, e_orV, e_notV, e_if, e_aug, e_augS, e_sl, e_part, e_partK, e_noPart, e_bm0, e_bm, e_join, e_yes, e_wipe0, e_wipeS, e_lc, e_for, v_add, v_addS, v_addT, v_iadd, v_sub, v_mul, v_fdiv, v_mod, v_pow, v_shl, v_shr, v_neg, v_lt, v_le, v_gt, v_ge, v_eqI, v_neI, v_eqS, v_neS, v_inS, v_ninS, v_inT, v_ninT, v_inR, v_ninR, v_inSeq, v_seqO, v_seqR, v_seqT, v_seqL, v_ixR, v_ixT, v_ixL, v_ixS, v_atK, v_atSK, v_get, v_getL, v_getK, v_set, v_setL, v_setK, v_on1, v_on2, v_lenR, v_lenT, v_lenL, v_lenS, v_seqK, v_tuple, v_list, v_abs, v_intI, v_intB, v_okL, v_isLst, v_app, v_lstK, v_slS, v_slT, v_join, v_is, v_isnot, v_max, v_min, v_iSeq, v_srcT, v_srcL, v_srcS, v_srcR, v_srcO, v_iRg1, v_rg1, v_truN, v_truB, v_truI, v_truS, v_truR, v_truT, v_truRol, v_truL, v_inRol, v_ninRol, v_inO, v_inOd, v_inDic, v_ixO, v_ixOd, v_ixSeq, v_ixDic, v_dgetK, v_ixStr, v_getO, v_getOd, v_setO, v_setOd, v_setDic, v_lenO, v_lenOd, e_dic0, e_disp, e_pairs0, e_pairsS, e_chain, v_bits, v_iRg3, v_rg3, v_iRg2, v_rg2, v_iEn, v_enT, v_enR, v_enO, v_iZp, v_zpT, v_zpR, v_zpO, v_repr, v_strI, v_strS, v_addR, v_and, v_slR, v_slL, v_ltS, v_srtT, v_srtR, v_srtO, v_srtD, v_revR, v_revT, v_isB, v_iZs, v_zsT, e_split, v_split, v_words, v_index, v_eqIS, v_neIS, v_eqB, v_neB])
def sp__law_shuffled : P1 := fun ds h Q => ∃ a c cs row xs, ds = [.ref a, row] ∧ Dr a c cs h ∧ seqOf h row = some xs ∧ row ≠ .ref a ∧ xs.length < 1000000 ∧ ∀ l o ys, h l = none → ys.Perm xs → DrO c o → Q (.ref l) (up (up h a o) l (.lst ys))
theorem len__law_shuffled : ∀ ds h Q, sp__law_shuffled ds h Q → ds.length = 2 := fun ds h Q ⟨a, c, cs, r, xs, e, _⟩ => by rw [e]; rfl
def shI (a lf fd c : Addr) (row : D) (h : MH) (xs : List D) (i : Nat) : Sl → MH → Prop := fun σ hh => ∃ o left found k, DrO c o ∧ left.length + i = xs.length ∧ found.length = i ∧ (found ++ left).Perm xs ∧ σ = [some (.ref a), some row, some (.ref lf), some (.ref fd), k] ∧ hh = up (up (up h a o) lf (.lst left)) fd (.lst found)
theorem sat__law_shuffled : ∀ ds h Q, sp__law_shuffled ds h Q → rd__law_shuffled sp__law_draw (endN Q) (startD 5 ds) h := by
  rintro ds h Q ⟨a, c, cs, row, xs, rfl, d, hr, hne, hl, q⟩
  show rd__law_shuffled sp__law_draw (endN Q) [some (.ref a), some row, none, none, none] h
  unfold rd__law_shuffled
  walk_at "ev"
  rw [hr]
  walk_at "ev"
  intro lf nlf
  have alf : a ≠ lf := by obtain ⟨u, e, _⟩ := d.st; exact nef e nlf
  have clf : c ≠ lf := nef d.ce nlf
  unfold rd__law_shuffled_1
  walk_at "ev"
  refine ⟨Nat.zero_le _, fun fd nfd => ?_⟩
  have lffd : lf ≠ fd := nef up_same nfd
  have nfd' : h fd = none := by rw [up_ne lffd.symm] at nfd; exact nfd
  have afd : a ≠ fd := by obtain ⟨u, e, _⟩ := d.st; exact nef e nfd'
  have cfd : c ≠ fd := nef d.ce nfd'
  unfold rd__law_shuffled_2
  walk_at "ev"
  rw [up_ne lffd, up_same]
  walk_at "ev"
  have len : (rgD 0 ((xs.length : Int)).toNat).length = xs.length := by unfold rgD; rw [List.length_map, List.length_range]; rfl
  obtain ⟨o0, e0, k0⟩ := d.st
  refine ⟨⟨by omega, by omega⟩, shI a lf fd c row h xs, Lw.of ⟨o0, xs, [], none, k0, rfl, rfl, by simp, rfl, by rw [up_id e0]⟩, fun _ _ _ _ => trivial, ?_, ?_⟩
  · rintro i x σ hh hx ⟨o, left, found, k, kk, hlen, hf, hp, rfl, rfl⟩
    have hi : i < xs.length := by rw [← len]; exact (List.getElem?_eq_some_iff.mp hx).1
    walk_at "ev"
    unfold rd__law_shuffled_b1
    walk_at "ev"
    rw [up_same, up_ne lffd, up_same]
    walk_at "ev"
    refine ⟨trivial, trivial, a, c, cs, _, rfl, by omega, by omega, ((d.up kk).put alf clf).put afd cfd, fun r o2 r0 r1 k2 => ?_⟩
    obtain ⟨j, rfl⟩ := Int.eq_ofNat_of_zero_le r0
    rw [v_pop, up_ne alf.symm, up_ne lffd, up_same]
    walk_at "ev"
    have hj : j < left.length := by omega
    refine ⟨j, left[j], ixN_of rfl hj, List.getElem?_eq_getElem hj, ⟨by omega, by omega⟩, ?_⟩
    rw [up_ne lffd.symm, up_ne afd.symm, up_same]
    walk_at "ev"
    refine ⟨Nat.lt_of_lt_of_le (show found.length < 1000000 by omega) (by decide), Lw.of ⟨o2, left.eraseIdx j, found ++ [left[j]], _, k2, ?_, by simp [hf], ?_, rfl, ?_⟩⟩
    · rw [List.length_eraseIdx_of_lt hj]; omega
    · refine List.Perm.trans ?_ hp
      rw [List.append_assoc]
      exact List.Perm.append_left _ (erase_perm left j hj)
    · funext b; unfold up
      by_cases b1 : b = fd <;> by_cases b2 : b = lf <;> by_cases b3 : b = a <;> simp_all
  · rintro σ hh ⟨o, left, found, k, kk, hlen, hf, hp, rfl, rfl⟩
    rw [len] at hlen hf
    have e : left = [] := List.eq_nil_of_length_eq_zero (by omega)
    subst e
    rw [List.append_nil] at hp
    walk_at "ev"
    unfold rd__law_shuffled_3
    walk_at "ev"
    refine ⟨up (up h a o) fd (.lst found), ?_, q fd o found nfd' hp kk⟩
    refine le.up2 (le.up ?_)
    rw [up_ne alf.symm]; exact nlf
theorem LV.shuf {h hh : MH} {a c l : Addr} {cs : List Int} {ws : List (Addr × MO)} {Q : KD} (L : LV h a c cs hh ws) {xs : List D} (e : hh l = some (.lst xs)) (la : l ≠ a) (hl : xs.length < 1000000) (q : ∀ (p : Addr) (ys : List D) (h1 : MH), p ≠ a → ys.Perm xs → LV h a c cs h1 ((p, .lst ys) :: ws) → Q (.ref p) h1) : sp__law_shuffled [.ref a, .ref l] hh Q :=
  ⟨a, c, cs, .ref l, xs, rfl, L.dr, (by show seqO (hh l) = _; rw [e]; rfl), (fun z => by cases z; exact la rfl), hl, fun p o ys np py k => by
    have pa := L.ne np
    have := (L.drawn k).new (p := p) (by rw [up_ne pa]; exact np) (.lst ys)
    exact q p ys _ pa py this⟩
/-- of a row that is one of a kind -/
theorem LV.shufT {h hh : MH} {a c l : Addr} {cs : List Int} {ws : List (Addr × MO)} {Q : KD} (L : LV h a c cs hh ws) {α : Type} (f : α → D) {xs : List α} (e : hh l = some (.lst (xs.map f))) (la : l ≠ a) (hl : xs.length < 1000000) (q : ∀ (p : Addr) (ys : List α) (h1 : MH), p ≠ a → ys.length = xs.length → (∀ y ∈ ys, y ∈ xs) → LV h a c cs h1 ((p, .lst (ys.map f)) :: ws) → Q (.ref p) h1) : sp__law_shuffled [.ref a, .ref l] hh Q :=
  L.shuf e la (by rw [List.length_map]; exact hl) fun p ys h1 pa py L1 => by
    have pre : ∀ {zs : List D}, (∀ z ∈ zs, z ∈ xs.map f) → ∃ m : List α, zs = m.map f ∧ ∀ x ∈ m, x ∈ xs := by
      intro zs
      induction zs with
      | nil => exact fun _ => ⟨[], rfl, by simp⟩
      | cons y r ih =>
        intro hz
        obtain ⟨m, e, q⟩ := ih fun z hz' => hz z (List.mem_cons_of_mem _ hz')
        obtain ⟨x, hx, ex⟩ := List.mem_map.mp (hz y (by simp))
        refine ⟨x :: m, by rw [List.map_cons, ex, e], fun z hz => ?_⟩
        rcases List.mem_cons.mp hz with rfl | hz
        · exact hx
        · exact q z hz
    obtain ⟨m, rfl, hm⟩ := pre fun z hz => py.mem_iff.mp hz
    exact q p m h1 pa (by have := py.length_eq; simpa using this) hm L1
end DL
namespace DL
namespace T50
/-! valuations, the first bit first -/
def allV : Nat → List (List Bool)
  | 0 => [[]]
  | n + 1 => (allV n).map (false :: ·) ++ (allV n).map (true :: ·)
theorem allV_len : ∀ n, (allV n).length = 2 ^ n
  | 0 => rfl
  | n + 1 => by rw [allV, List.length_append, List.length_map, List.length_map, allV_len n, Nat.pow_succ]; omega
theorem mem_len : ∀ n v, v ∈ allV n → v.length = n
  | 0, v, h => by rw [allV, List.mem_singleton] at h; subst h; rfl
  | n + 1, v, h => by
    rw [allV, List.mem_append, List.mem_map, List.mem_map] at h
    rcases h with ⟨w, hw, rfl⟩ | ⟨w, hw, rfl⟩ <;> rw [List.length_cons, mem_len n w hw]
def bit (v : List Bool) (a : Nat) : Bool := v.getD a false
/-! tables -/
inductive Nod where | leaf (k : Nat) | nod (a l h : Nat)
section
variable (ns : List Nod) (v : List Bool)
def stepN (p : Nat) : Nat := match ns[p]? with
  | some (.nod a l h) => if bit v a = true then h else l
  | _ => p
def walkN : Nat → Nat → Nat
  | 0, p => p
  | t + 1, p => walkN t (stepN ns v p)
def isLf (p : Nat) : Bool := match ns[p]? with
  | some (.leaf _) => true
  | _ => false
def atomN (n : Nat) (p : Nat) : Nat := match ns[p]? with
  | some (.nod a _ _) => a
  | _ => n
def fin (p : Nat) : Nat := walkN ns v ns.length p
def cur : Nat → Nat
  | 0 => ns.length - 1
  | j + 1 => if cur j = ns.length - 1 - j then stepN ns v (cur j) else cur j
end
structure Ord (n : Nat) (ns : List Nod) : Prop where
  ne : 0 < ns.length
  nod : ∀ p a l h, ns[p]? = some (.nod a l h) → l < p ∧ h < p ∧ a < n ∧ a < atomN ns n l ∧ a < atomN ns n h
section
variable {ns : List Nod} {v : List Bool} {n : Nat}
theorem step_nod {p a l h : Nat} (e : ns[p]? = some (.nod a l h)) : stepN ns v p = if bit v a = true then h else l := by unfold stepN; rw [e]
theorem step_leaf {p : Nat} (e : isLf ns p = true) : stepN ns v p = p := by
  unfold isLf at e; unfold stepN
  split at e
  · rename_i k q; rw [q]
  · cases e
theorem nod_of {p : Nat} (hp : p < ns.length) (e : isLf ns p = false) : ∃ a l h, ns[p]? = some (.nod a l h) := by
  unfold isLf at e
  rw [List.getElem?_eq_getElem hp] at e ⊢
  cases q : ns[p] with
  | leaf k => rw [q] at e; cases e
  | nod a l h => exact ⟨a, l, h, rfl⟩
theorem leaf_of {p : Nat} (e : isLf ns p = true) : ∃ k, ns[p]? = some (.leaf k) := by
  unfold isLf at e
  split at e
  · rename_i k q; exact ⟨k, q⟩
  · cases e
theorem not_leaf {p a l h : Nat} (e : ns[p]? = some (.nod a l h)) : isLf ns p = false := by unfold isLf; rw [e]
theorem is_leaf {p k : Nat} (e : ns[p]? = some (.leaf k)) : isLf ns p = true := by unfold isLf; rw [e]
theorem atom_leaf {p : Nat} (e : isLf ns p = true) : atomN ns n p = n := by
  obtain ⟨k, e⟩ := leaf_of e
  unfold atomN; rw [e]
theorem atom_nod {p a l h : Nat} (e : ns[p]? = some (.nod a l h)) : atomN ns n p = a := by unfold atomN; rw [e]
theorem atom_le (O : Ord n ns) (p : Nat) : atomN ns n p ≤ n := by
  unfold atomN
  split
  · rename_i a l h e; exact Nat.le_of_lt (O.nod _ _ _ _ e).2.2.1
  · exact Nat.le_refl _
theorem step_lt (O : Ord n ns) {p : Nat} (hp : p < ns.length) (e : isLf ns p = false) : stepN ns v p < p := by
  obtain ⟨a, l, h, q⟩ := nod_of hp e
  obtain ⟨x, y, _⟩ := O.nod _ _ _ _ q
  rw [step_nod q]; split <;> assumption
theorem step_le (O : Ord n ns) {p : Nat} (hp : p < ns.length) : stepN ns v p ≤ p := by
  cases e : isLf ns p with
  | true => rw [step_leaf e]; exact Nat.le_refl _
  | false => exact Nat.le_of_lt (step_lt O hp e)
theorem walk_leaf {p : Nat} (e : isLf ns p = true) : ∀ t, walkN ns v t p = p
  | 0 => rfl
  | t + 1 => by rw [walkN, step_leaf e]; exact walk_leaf e t
theorem walk_end (O : Ord n ns) : ∀ t p, p < ns.length → p ≤ t → isLf ns (walkN ns v t p) = true ∧ walkN ns v t p ≤ p
  | t, p, hp, ht => by
    cases e : isLf ns p with
    | true => rw [walk_leaf e]; exact ⟨e, Nat.le_refl _⟩
    | false =>
      have h1 := step_lt (v := v) O hp e
      cases t with
      | zero => omega
      | succ t =>
        rw [walkN]
        obtain ⟨x, y⟩ := walk_end O t (stepN ns v p) (by omega) (by omega)
        exact ⟨x, by omega⟩
theorem walk_more (O : Ord n ns) : ∀ t p, p < ns.length → p ≤ t → walkN ns v (t + 1) p = walkN ns v t p
  | t, p, hp, ht => by
    cases e : isLf ns p with
    | true => rw [walk_leaf e, walk_leaf e]
    | false =>
      have h1 := step_lt (v := v) O hp e
      cases t with
      | zero => omega
      | succ t =>
        rw [walkN, walkN]
        exact walk_more O t (stepN ns v p) (by omega) (by omega)
theorem fin_step (O : Ord n ns) {p : Nat} (hp : p < ns.length) : fin ns v (stepN ns v p) = fin ns v p := walk_more O _ p hp (Nat.le_of_lt hp)
theorem fin_leaf {p : Nat} (e : isLf ns p = true) : fin ns v p = p := walk_leaf e _
theorem fin_ok (O : Ord n ns) {p : Nat} (hp : p < ns.length) : isLf ns (fin ns v p) = true ∧ fin ns v p < ns.length := by
  obtain ⟨x, y⟩ := walk_end (v := v) O _ p hp (Nat.le_of_lt hp)
  exact ⟨x, Nat.lt_of_le_of_lt y hp⟩
theorem walk_add : ∀ t p, walkN ns v (t + 1) p = stepN ns v (walkN ns v t p)
  | 0, p => rfl
  | t + 1, p => by rw [walkN, walk_add t, walkN]
/-! the walk by places -/
theorem cur_ok (O : Ord n ns) : ∀ j, cur ns v j < ns.length ∧ fin ns v (cur ns v j) = fin ns v (ns.length - 1) ∧ (isLf ns (cur ns v j) = true ∨ cur ns v j + j ≤ ns.length - 1)
  | 0 => ⟨by have := O.ne; show ns.length - 1 < _; omega, rfl, .inr (Nat.le_refl _)⟩
  | j + 1 => by
    obtain ⟨h1, h2, h3⟩ := cur_ok O j
    rw [cur]
    split
    · rename_i e
      refine ⟨Nat.lt_of_le_of_lt (step_le O h1) h1, (fin_step O h1).trans h2, ?_⟩
      cases q : isLf ns (cur ns v j) with
      | true => left; rw [step_leaf q]; exact q
      | false =>
        right
        have := step_lt (v := v) O h1 q
        rcases h3 with h3 | h3
        · rw [h3] at q; cases q
        · omega
    · rename_i e
      refine ⟨h1, h2, ?_⟩
      rcases h3 with h3 | h3
      · exact .inl h3
      · right; omega
theorem cur_end (O : Ord n ns) : cur ns v ns.length = fin ns v (ns.length - 1) := by
  obtain ⟨h1, h2, h3⟩ := cur_ok (v := v) O ns.length
  rcases h3 with h3 | h3
  · rw [← h2, fin_leaf h3]
  · have := O.ne; omega
theorem cur_same (O : Ord n ns) {w : List Bool} : ∀ j, (∀ i, i < atomN ns n (cur ns v j) → bit v i = bit w i) → cur ns w j = cur ns v j
  | 0, _ => rfl
  | j + 1, h => by
    obtain ⟨h1, _, _⟩ := cur_ok (v := v) O j
    rw [cur] at h
    by_cases e : cur ns v j = ns.length - 1 - j
    · rw [if_pos e] at h
      cases q : isLf ns (cur ns v j) with
      | true =>
        rw [step_leaf q] at h
        have ih := cur_same O j h
        rw [cur, cur, ih, step_leaf q, step_leaf q]
      | false =>
        obtain ⟨a, l, hh, q⟩ := nod_of h1 q
        obtain ⟨_, _, _, x, y⟩ := O.nod _ _ _ _ q
        have ha : a < atomN ns n (stepN ns v (cur ns v j)) := by rw [step_nod q]; split <;> assumption
        have ih := cur_same O j (w := w) fun i hi => by
          rw [atom_nod q] at hi
          exact h i (by omega)
        rw [cur, cur, ih, step_nod q, step_nod q, h a ha]
    · rw [if_neg e] at h
      have ih := cur_same O j h
      simp only [cur, ih, if_neg e]
end
/-! counting -/
theorem cmap {α β : Type} (f : α → β) (p : β → Bool) : ∀ l : List α, (l.map f).countP p = l.countP fun x => p (f x)
  | [] => rfl
  | x :: r => by rw [List.map_cons, List.countP_cons, List.countP_cons, cmap f p r]
theorem ccong {α : Type} {p q : α → Bool} : ∀ {l : List α}, (∀ x ∈ l, p x = q x) → l.countP p = l.countP q
  | [], _ => rfl
  | x :: r, h => by rw [List.countP_cons, List.countP_cons, ccong fun y hy => h y (by simp [hy]), h x (by simp)]
theorem bit_0 {b : Bool} {v : List Bool} : bit (b :: v) 0 = b := rfl
theorem bit_s {b : Bool} {v : List Bool} {a : Nat} : bit (b :: v) (a + 1) = bit v a := rfl
theorem flip : ∀ (n a : Nat) (P : List Bool → Bool), a < n → (∀ v w, (∀ i, i < a → bit v i = bit w i) → P v = P w) →
    (allV n).countP (fun v => P v && bit v a) = (allV n).countP (fun v => P v && !bit v a)
  | 0, a, P, h, _ => by omega
  | n + 1, 0, P, h, c => by
    rw [allV, List.countP_append, List.countP_append, cmap, cmap, cmap, cmap]
    have e : ∀ v w, P v = P w := fun v w => c v w fun i hi => by omega
    simp only [bit_0, Bool.and_false, Bool.and_true, Bool.not_true, Bool.not_false]
    rw [ccong (p := fun x => P (true :: x)) (q := fun x => P (false :: x)) fun x _ => e _ _]
    omega
  | n + 1, a + 1, P, h, c => by
    rw [allV, List.countP_append, List.countP_append, cmap, cmap, cmap, cmap]
    simp only [bit_s]
    rw [flip n a (fun v => P (false :: v)) (by omega), flip n a (fun v => P (true :: v)) (by omega)]
    · intro v w e
      exact c _ _ fun i hi => by
        cases i with
        | zero => rfl
        | succ i => exact e i (by omega)
    · intro v w e
      exact c _ _ fun i hi => by
        cases i with
        | zero => rfl
        | succ i => exact e i (by omega)
theorem csplit {α : Type} (P b : α → Bool) : ∀ l : List α, l.countP P = l.countP (fun x => P x && b x) + l.countP (fun x => P x && !b x)
  | [] => rfl
  | x :: r => by
    rw [List.countP_cons, List.countP_cons, List.countP_cons, csplit P b r]
    cases P x <;> cases b x <;> simp <;> omega
/-- each in just one class -/
theorem csum {α : Type} (f : α → Nat) {S : List Nat} (hS : S.Nodup) : ∀ l : List α, (∀ x ∈ l, f x ∈ S) → (S.map fun p => l.countP fun x => f x == p).sum = l.length
  | [], _ => by
    have : ∀ T : List Nat, (T.map fun p => ([] : List α).countP fun x => f x == p).sum = 0 := fun T => by
      induction T with
      | nil => rfl
      | cons y r ih => rw [List.map_cons, List.sum_cons, ih]; rfl
    exact this S
  | x :: r, h => by
    have ih := csum f hS r fun y hy => h y (by simp [hy])
    have one : ∀ T : List Nat, T.Nodup → (T.map fun p => (x :: r).countP fun y => f y == p).sum = (T.map fun p => r.countP fun y => f y == p).sum + if f x ∈ T then 1 else 0 := fun T => by
      induction T with
      | nil => intro _; rfl
      | cons y t ih =>
        intro nd
        rw [List.nodup_cons] at nd
        rw [List.map_cons, List.map_cons, List.sum_cons, List.sum_cons, ih nd.2, List.countP_cons]
        by_cases e : f x = y
        · subst e
          simp [nd.1]; omega
        · have e2 : (f x == y) = false := beq_eq_false_iff_ne.mpr e
          simp [e, e2]; omega
    rw [one S hS, ih, if_pos (h x (by simp))]; rfl
/-! ways -/
section
variable {ns : List Nod} {n : Nat}
/-- how many valuations stand at a place, behind j places -/
def W (ns : List Nod) (n j q : Nat) : Nat := (allV n).countP fun v => cur ns v j == q
theorem W_0 (O : Ord n ns) (q : Nat) : W ns n 0 q = if q = ns.length - 1 then 2 ^ n else 0 := by
  unfold W
  split
  · rename_i e; subst e
    rw [ccong (q := fun _ => true) fun x _ => by show (ns.length - 1 == _) = true; exact beq_self_eq_true _, List.countP_true, allV_len]
  · rename_i e
    rw [ccong (q := fun _ => false) fun x _ => by show (ns.length - 1 == _) = false; exact beq_eq_false_iff_ne.mpr (Ne.symm e)]; simp
theorem W_leaf {j q : Nat} (e : isLf ns (ns.length - 1 - j) = true) : W ns n (j + 1) q = W ns n j q := by
  unfold W
  refine ccong fun v _ => ?_
  rw [cur]
  split
  · rename_i z; rw [z, step_leaf e]
  · rfl
theorem csteps (c c' : List Bool → Nat) (b : List Bool → Bool) (p l h q : Nat) (hq : q ≠ p) (e : ∀ v, c' v = if c v = p then (if b v = true then h else l) else c v) : ∀ L : List (List Bool),
    L.countP (fun v => c' v == q) = L.countP (fun v => c v == q) + (if q = l then L.countP (fun v => (c v == p) && !b v) else 0) + (if q = h then L.countP (fun v => (c v == p) && b v) else 0)
  | [] => by simp
  | v :: r => by
    simp only [List.countP_cons]
    rw [csteps c c' b p l h q hq e r, e v]
    by_cases h1 : c v = p
    · rw [if_pos h1]
      have h2 : (c v == q) = false := beq_eq_false_iff_ne.mpr (by omega)
      have h3 : (c v == p) = true := by rw [h1]; exact beq_self_eq_true _
      rw [h2, h3]
      cases b v
      · rw [if_neg Bool.false_ne_true]
        by_cases k : q = l
        · subst k; simp; by_cases k2 : q = h <;> simp [k2] <;> omega
        · have : (l == q) = false := beq_eq_false_iff_ne.mpr (Ne.symm k)
          simp [k, this]
      · rw [if_pos rfl]
        by_cases k : q = h
        · subst k; simp; by_cases k2 : q = l <;> simp [k2] <;> omega
        · have : (h == q) = false := beq_eq_false_iff_ne.mpr (Ne.symm k)
          simp [k, this]
    · rw [if_neg h1]
      have h3 : (c v == p) = false := beq_eq_false_iff_ne.mpr h1
      rw [h3]; simp
      omega
theorem W_nod (O : Ord n ns) {j a l h q : Nat} (e : ns[ns.length - 1 - j]? = some (.nod a l h)) (hq : q ≠ ns.length - 1 - j) :
    W ns n (j + 1) q * 2 = W ns n j q * 2 + (if q = l then W ns n j (ns.length - 1 - j) else 0) + (if q = h then W ns n j (ns.length - 1 - j) else 0) := by
  have ha := (O.nod _ _ _ _ e).2.2.1
  have f := flip n a (fun v => cur ns v j == ns.length - 1 - j) ha fun v w hvw => by
    by_cases z : cur ns v j = ns.length - 1 - j
    · have := cur_same (v := v) (w := w) O j (by rw [z, atom_nod e]; exact hvw)
      rw [this]
    · by_cases z2 : cur ns w j = ns.length - 1 - j
      · have := cur_same (v := w) (w := v) O j (by rw [z2, atom_nod e]; exact fun i hi => (hvw i hi).symm)
        rw [this]
      · rw [beq_eq_false_iff_ne.mpr z, beq_eq_false_iff_ne.mpr z2]
  have s := csplit (fun v => cur ns v j == ns.length - 1 - j) (fun v => bit v a) (allV n)
  have t := csteps (fun v => cur ns v j) (fun v => cur ns v (j + 1)) (fun v => bit v a) _ l h q hq (fun v => by
    show cur ns v (j + 1) = _
    rw [cur]
    split
    · rename_i z; rw [z, step_nod e]
    · rfl) (allV n)
  unfold W
  rw [t]
  by_cases k1 : q = l
  · by_cases k2 : q = h
    · simp only [if_pos k1, if_pos k2]; omega
    · simp only [if_pos k1, if_neg k2]; omega
  · by_cases k2 : q = h
    · simp only [if_neg k1, if_pos k2]; omega
    · simp only [if_neg k1, if_neg k2]; omega
/-- what the list of ways says -/
def WaysOk (ns : List Nod) (n j : Nat) (ws : List Nat) : Prop := ws.length = ns.length ∧ ∀ q w, ws[q]? = some w → (isLf ns q = true ∨ q + j < ns.length) → w * 2 ^ (n - atomN ns n q) = W ns n j q
theorem ways_leaf {j : Nat} {ws : List Nat} (hj : j < ns.length) (e : isLf ns (ns.length - 1 - j) = true) (k : WaysOk ns n j ws) : WaysOk ns n (j + 1) ws :=
  ⟨k.1, fun q w hw ho => by rw [W_leaf e]; exact k.2 q w hw (ho.imp_right fun z => by omega)⟩
theorem ways_nod (O : Ord n ns) {j a l h c x y : Nat} {ws : List Nat} (hj : j < ns.length) (e : ns[ns.length - 1 - j]? = some (.nod a l h)) (k : WaysOk ns n j ws)
    (hc : ws[ns.length - 1 - j]? = some c) (hx : ws[l]? = some x) (hy : (ws.set l (x + c * 2 ^ (atomN ns n l - a - 1)))[h]? = some y) :
    WaysOk ns n (j + 1) ((ws.set l (x + c * 2 ^ (atomN ns n l - a - 1))).set h (y + c * 2 ^ (atomN ns n h - a - 1))) := by
  obtain ⟨hl, hh, ha, hal, hah⟩ := O.nod _ _ _ _ e
  have kc := k.2 _ _ hc (.inr (by omega))
  rw [atom_nod e] at kc
  have pw : ∀ q, a < atomN ns n q → c * 2 ^ (atomN ns n q - a - 1) * 2 ^ (n - atomN ns n q) * 2 = W ns n j (ns.length - 1 - j) := fun q hq => by
    have := atom_le O q
    have e : 2 ^ (n - a) = 2 ^ (atomN ns n q - a - 1) * 2 ^ (n - atomN ns n q) * 2 := by
      rw [← Nat.pow_add, ← Nat.pow_succ]; congr 1; omega
    rw [← kc, e]
    simp only [Nat.mul_assoc]
  refine ⟨by rw [List.length_set, List.length_set]; exact k.1, fun q w hw ho => ?_⟩
  have hq : q ≠ ns.length - 1 - j := by
    rcases ho with ho | ho
    · intro z; rw [z, not_leaf e] at ho; cases ho
    · omega
  have hlen : q < ns.length := by
    have := (List.getElem?_eq_some_iff.mp hw).1
    rw [List.length_set, List.length_set, k.1] at this; exact this
  have o2 : ∀ u, ws[q]? = some u → u * 2 ^ (n - atomN ns n q) = W ns n j q := fun u hu => k.2 q u hu (ho.imp_right fun z => by omega)
  have wn := W_nod O e hq
  refine Nat.eq_of_mul_eq_mul_right (show 0 < 2 by decide) ?_
  rw [wn]
  by_cases k1 : q = l
  · subst k1
    have p1 := pw q hal
    have h1 := o2 x hx
    by_cases k2 : q = h
    · subst k2
      rw [List.getElem?_set_self (by rw [List.length_set, k.1]; exact hlen)] at hw
      rw [List.getElem?_set_self (by rw [k.1]; exact hlen)] at hy
      cases hw; cases hy
      rw [if_pos rfl, Nat.add_mul, Nat.add_mul, Nat.add_mul, Nat.add_mul, h1, p1]
    · rw [List.getElem?_set_ne (Ne.symm k2), List.getElem?_set_self (by rw [k.1]; exact hlen)] at hw
      cases hw
      rw [if_pos rfl, if_neg k2, Nat.add_mul, Nat.add_mul, h1, p1]; rfl
  · by_cases k2 : q = h
    · subst k2
      have p1 := pw q hah
      rw [List.getElem?_set_ne (Ne.symm k1)] at hy
      have h1 := o2 y hy
      rw [List.getElem?_set_self (by rw [List.length_set, k.1]; exact hlen)] at hw
      cases hw
      rw [if_neg k1, if_pos rfl, Nat.add_mul, Nat.add_mul, h1, p1]; rfl
    · rw [List.getElem?_set_ne (Ne.symm k2), List.getElem?_set_ne (Ne.symm k1)] at hw
      rw [if_neg k1, if_neg k2, o2 w hw]; rfl
theorem ways_end (O : Ord n ns) {ws : List Nat} (k : WaysOk ns n ns.length ws) {q w : Nat} (e : isLf ns q = true) (hw : ws[q]? = some w) : w = (allV n).countP fun v => fin ns v (ns.length - 1) == q := by
  have h := k.2 q w hw (.inl e)
  rw [atom_leaf e, Nat.sub_self, Nat.pow_zero, Nat.mul_one] at h
  rw [h]
  unfold W
  exact ccong fun v _ => by rw [cur_end O]
end
end T50
end DL
namespace DL
namespace T50
/-! rows -/
def shk : Nat → List Nat → List Nat
  | 0, r => r
  | m + 1, r => if r.take (2 ^ m) = r.drop (2 ^ m) then shk m (r.take (2 ^ m)) else r
/-- no half is the other -/
def Nosh : Nat → List Nat → Prop
  | 0, _ => True
  | m + 1, r => r.take (2 ^ m) ≠ r.drop (2 ^ m)
def vIdx : List Bool → Nat
  | [] => 0
  | b :: r => (if b = true then 2 ^ r.length else 0) + vIdx r
theorem vIdx_lt : ∀ v : List Bool, vIdx v < 2 ^ v.length
  | [] => by decide
  | b :: r => by
    have := vIdx_lt r
    rw [vIdx, List.length_cons, Nat.pow_succ]
    split <;> omega
theorem half_len {m : Nat} {r : List Nat} (h : r.length = 2 ^ (m + 1)) : (r.take (2 ^ m)).length = 2 ^ m ∧ (r.drop (2 ^ m)).length = 2 ^ m := by
  rw [List.length_take, List.length_drop, h, Nat.pow_succ]; omega
theorem shk_ok : ∀ m (r : List Nat), r.length = 2 ^ m → ∃ m', m' ≤ m ∧ (shk m r).length = 2 ^ m' ∧ Nosh m' (shk m r) ∧ (∀ x ∈ shk m r, x ∈ r) ∧ ∀ v : List Bool, v.length = m → r[vIdx v]? = (shk m r)[vIdx (v.drop (m - m'))]?
  | 0, r, h => ⟨0, Nat.le_refl _, h, trivial, fun x hx => hx, fun v _ => rfl⟩
  | m + 1, r, h => by
    obtain ⟨h1, h2⟩ := half_len h
    rw [shk]
    by_cases e : r.take (2 ^ m) = r.drop (2 ^ m)
    · rw [if_pos e]
      obtain ⟨m', a, b, c, d, f⟩ := shk_ok m (r.take (2 ^ m)) h1
      refine ⟨m', by omega, b, c, fun x hx => List.mem_of_mem_take (d x hx), fun v hv => ?_⟩
      cases v with
      | nil => cases hv
      | cons b v =>
        have hv : v.length = m := by simpa using hv
        have hlt := vIdx_lt v
        rw [hv] at hlt
        have hd : m + 1 - m' = (m - m') + 1 := by omega
        rw [hd, List.drop_succ_cons, ← f v hv, vIdx, hv]
        cases b
        · simp only [Bool.false_eq_true, if_false, Nat.zero_add]
          rw [List.getElem?_take_of_lt hlt]
        · rw [if_pos rfl, e, List.getElem?_drop]
    · rw [if_neg e]
      exact ⟨m + 1, Nat.le_refl _, h, e, fun x hx => hx, fun v _ => by rw [Nat.sub_self]; rfl⟩
theorem shk_id {m : Nat} {r : List Nat} (h : Nosh m r) : shk m r = r := by
  cases m with
  | zero => rfl
  | succ m => rw [shk, if_neg h]
/-! tables of rows -/
def RowAt (n : Nat) (rs : List (List Nat)) (ns : List Nod) (i : Nat) : Nat → List Nat → Prop
  | 0, r => ∃ k, r = [k] ∧ ns[i]? = some (.leaf k)
  | m + 1, r => Nosh (m + 1) r ∧ ∃ l h, l < i ∧ h < i ∧ ns[i]? = some (.nod (n - (m + 1)) l h) ∧ rs[l]? = some (shk m (r.take (2 ^ m))) ∧ rs[h]? = some (shk m (r.drop (2 ^ m)))
structure Tb (n K : Nat) (rs : List (List Nat)) (ns : List Nod) : Prop where
  len : ns.length = rs.length
  nd : rs.Nodup
  row : ∀ i r, rs[i]? = some r → (∀ x ∈ r, x < K) ∧ ∃ m, m ≤ n ∧ r.length = 2 ^ m ∧ RowAt n rs ns i m r
theorem tb_nil {n K : Nat} : Tb n K [] [] := ⟨rfl, List.nodup_nil, fun i r h => by simp at h⟩
theorem app_get {α : Type} {l : List α} {x y : α} {i : Nat} (h : (l ++ [x])[i]? = some y) : l[i]? = some y ∨ (i = l.length ∧ y = x) := by
  by_cases e : i < l.length
  · rw [List.getElem?_append_left e] at h; exact .inl h
  · rw [List.getElem?_append_right (by omega)] at h
    by_cases e2 : i - l.length = 0
    · rw [e2] at h; cases h; exact .inr ⟨by omega, rfl⟩
    · obtain ⟨k, hk⟩ := Nat.exists_eq_succ_of_ne_zero e2
      rw [hk] at h; cases h
theorem get_app {α : Type} {l t : List α} {y : α} {i : Nat} (h : l[i]? = some y) : (l ++ t)[i]? = some y := by
  rw [List.getElem?_append_left (List.getElem?_eq_some_iff.mp h).1]; exact h
theorem get_last {α : Type} {l : List α} {x : α} : (l ++ [x])[l.length]? = some x := by
  rw [List.getElem?_append_right (Nat.le_refl _), Nat.sub_self]; rfl
theorem RowAt.more {n i m : Nat} {rs : List (List Nat)} {ns : List Nod} {r q : List Nat} {x : Nod} (h : RowAt n rs ns i m r) : RowAt n (rs ++ [q]) (ns ++ [x]) i m r := by
  cases m with
  | zero =>
    obtain ⟨k, a, b⟩ := h
    exact ⟨k, a, get_app b⟩
  | succ m =>
    obtain ⟨a, l, hh, b, c, d, e, f⟩ := h
    exact ⟨a, l, hh, b, c, get_app d, get_app e, get_app f⟩
theorem Tb.put {n K m : Nat} {rs : List (List Nat)} {ns : List Nod} {r : List Nat} {x : Nod} (T : Tb n K rs ns) (nm : r ∉ rs) (hx : ∀ x ∈ r, x < K) (hm : m ≤ n) (hl : r.length = 2 ^ m) (ra : RowAt n (rs ++ [r]) (ns ++ [x]) rs.length m r) : Tb n K (rs ++ [r]) (ns ++ [x]) := by
  refine ⟨by rw [List.length_append, List.length_append, T.len]; rfl, ?_, fun i q h => ?_⟩
  · rw [List.nodup_append]
    exact ⟨T.nd, by simp, fun a ha b hb => by rw [List.mem_singleton.mp hb]; intro z; rw [z] at ha; exact nm ha⟩
  · rcases app_get h with h | ⟨rfl, rfl⟩
    · obtain ⟨a, m', b, c, d⟩ := T.row i q h
      exact ⟨a, m', b, c, d.more⟩
    · exact ⟨hx, m, hm, hl, ra⟩
theorem Tb.leaf {n K k : Nat} {rs : List (List Nat)} {ns : List Nod} (T : Tb n K rs ns) (nm : [k] ∉ rs) (hk : k < K) : Tb n K (rs ++ [[k]]) (ns ++ [.leaf k]) :=
  T.put (m := 0) nm (fun x hx => by rw [List.mem_singleton.mp hx]; exact hk) (Nat.zero_le _) rfl ⟨k, rfl, by rw [← T.len]; exact get_last⟩
theorem Tb.nod {n K m l h : Nat} {rs : List (List Nat)} {ns : List Nod} {r : List Nat} (T : Tb n K rs ns) (nm : r ∉ rs) (hx : ∀ x ∈ r, x < K) (hm : m + 1 ≤ n) (hl : r.length = 2 ^ (m + 1)) (ho : Nosh (m + 1) r)
    (el : rs[l]? = some (shk m (r.take (2 ^ m)))) (eh : rs[h]? = some (shk m (r.drop (2 ^ m)))) : Tb n K (rs ++ [r]) (ns ++ [.nod (n - (m + 1)) l h]) :=
  T.put (m := m + 1) nm hx hm hl ⟨ho, l, h, (List.getElem?_eq_some_iff.mp el).1, (List.getElem?_eq_some_iff.mp eh).1, by rw [← T.len]; exact get_last, get_app el, get_app eh⟩
theorem nodup_at {α : Type} {l : List α} (nd : l.Nodup) {i j : Nat} {x : α} (a : l[i]? = some x) (b : l[j]? = some x) : i = j := by
  exact (List.getElem?_inj (List.getElem?_eq_some_iff.mp a).1 nd).mp (a.trans b.symm)
section
variable {n K : Nat} {rs : List (List Nat)} {ns : List Nod}
theorem Tb.at_nod (T : Tb n K rs ns) {i : Nat} (hi : i < ns.length) : ∃ r m, rs[i]? = some r ∧ (∀ x ∈ r, x < K) ∧ m ≤ n ∧ r.length = 2 ^ m ∧ RowAt n rs ns i m r := by
  rw [T.len] at hi
  obtain ⟨a, m, b, c, d⟩ := T.row i _ (List.getElem?_eq_getElem hi)
  exact ⟨_, m, List.getElem?_eq_getElem hi, a, b, c, d⟩
theorem Tb.leaf_inj (T : Tb n K rs ns) {i j k : Nat} (a : ns[i]? = some (.leaf k)) (b : ns[j]? = some (.leaf k)) : i = j := by
  have row : ∀ {i : Nat}, ns[i]? = some (.leaf k) → rs[i]? = some [k] := fun {i} a => by
    obtain ⟨r, m, e, _, _, _, ra⟩ := T.at_nod (List.getElem?_eq_some_iff.mp a).1
    cases m with
    | zero =>
      obtain ⟨k', e1, e2⟩ := ra
      rw [a] at e2; cases e2
      rw [e, e1]
    | succ m =>
      obtain ⟨_, l, h, _, _, e2, _⟩ := ra
      rw [a] at e2; cases e2
  exact nodup_at T.nd (row a) (row b)
theorem Tb.leaf_lt (T : Tb n K rs ns) {i k : Nat} (a : ns[i]? = some (.leaf k)) : k < K := by
  obtain ⟨r, m, e, hx, _, _, ra⟩ := T.at_nod (List.getElem?_eq_some_iff.mp a).1
  cases m with
  | zero =>
    obtain ⟨k', e1, e2⟩ := ra
    rw [a] at e2; cases e2
    exact hx _ (by rw [e1]; simp)
  | succ m =>
    obtain ⟨_, l, h, _, _, e2, _⟩ := ra
    rw [a] at e2; cases e2
theorem Tb.atom (T : Tb n K rs ns) {i m : Nat} {r : List Nat} (e : rs[i]? = some r) (hl : r.length = 2 ^ m) (hm : m ≤ n) : atomN ns n i = n - m := by
  obtain ⟨_, m', hm', hl', ra⟩ := T.row i r e
  have : m' = m := by
    have := hl'.symm.trans hl
    exact (Nat.pow_right_inj (by decide)).mp this
  subst this
  cases m' with
  | zero =>
    obtain ⟨k, _, e2⟩ := ra
    rw [atom_leaf (is_leaf e2)]; rfl
  | succ m =>
    obtain ⟨_, l, h, _, _, e2, _⟩ := ra
    rw [atom_nod e2]
theorem Tb.ord (T : Tb n K rs ns) (ne : 0 < ns.length) : Ord n ns := by
  refine ⟨ne, fun p a l h e => ?_⟩
  obtain ⟨r, m, er, hx, hm, hl, ra⟩ := T.at_nod (List.getElem?_eq_some_iff.mp e).1
  cases m with
  | zero =>
    obtain ⟨k, _, e2⟩ := ra
    rw [e] at e2; cases e2
  | succ m =>
    obtain ⟨_, l', h', b, c, e2, f, g⟩ := ra
    rw [e] at e2; cases e2
    obtain ⟨h1, h2⟩ := half_len hl
    have sub : ∀ {q : List Nat} {j : Nat}, q.length = 2 ^ m → rs[j]? = some (shk m q) → n - (m + 1) < atomN ns n j := fun {q j} hq ej => by
      obtain ⟨m', a1, b1, _⟩ := shk_ok m q hq
      rw [T.atom ej b1 (by omega)]; omega
    exact ⟨b, c, by omega, sub h1 f, sub h2 g⟩
/-- other sizes -/
theorem Ord.size (O : Ord n ns) {n' : Nat} (hs : ∀ (p a l h : Nat), ns[p]? = some (Nod.nod a l h) → a < n') : Ord n' ns := by
  have at_ : ∀ a q, a < atomN ns n q → a < n' → a < atomN ns n' q := fun a q h1 h2 => by
    unfold atomN at h1 ⊢
    split
    · rename_i b l hh e; rw [e] at h1; exact h1
    · exact h2
  exact ⟨O.ne, fun p a l hh e => by
    obtain ⟨x, y, z, u, w⟩ := O.nod _ _ _ _ e
    have := hs _ _ _ _ e
    exact ⟨x, y, this, at_ _ _ u this, at_ _ _ w this⟩⟩
/-- what a walk finds -/
theorem Tb.finds (T : Tb n K rs ns) (O : Ord n ns) {v : List Bool} (hv : v.length = n) : ∀ t i, i < t → ∀ r m, rs[i]? = some r → r.length = 2 ^ m → m ≤ n → ∃ k, ns[fin ns v i]? = some (.leaf k) ∧ r[vIdx (v.drop (n - m))]? = some k
  | 0, i, h, _, _, _, _, _ => by omega
  | t + 1, i, ht, r, m, er, hl, hm => by
    obtain ⟨_, m', hm', hl', ra⟩ := T.row i r er
    have : m' = m := (Nat.pow_right_inj (by decide)).mp (hl'.symm.trans hl)
    subst this
    have hi : i < ns.length := by rw [T.len]; exact (List.getElem?_eq_some_iff.mp er).1
    cases m' with
    | zero =>
      obtain ⟨k, rfl, e2⟩ := ra
      refine ⟨k, by rw [fin_leaf (is_leaf e2)]; exact e2, ?_⟩
      rw [show v.drop (n - 0) = [] by rw [Nat.sub_zero]; exact List.drop_eq_nil_of_le (by omega)]
      rfl
    | succ m =>
      obtain ⟨_, l, h, b, c, e2, f, g⟩ := ra
      obtain ⟨h1, h2⟩ := half_len hl
      have hd : n - (m + 1) < v.length := by omega
      have hdrop : v.drop (n - (m + 1)) = v[n - (m + 1)] :: v.drop (n - m) := by
        rw [List.drop_eq_getElem_cons hd]
        congr 2; omega
      have hb : bit v (n - (m + 1)) = v[n - (m + 1)] := by
        unfold bit; rw [List.getD_eq_getElem?_getD, List.getElem?_eq_getElem hd]; rfl
      have hlen : (v.drop (n - m)).length = m := by rw [List.length_drop]; omega
      have hlt := vIdx_lt (v.drop (n - m))
      rw [hlen] at hlt
      have sub : ∀ {q : List Nat} {j : Nat}, j < i → q.length = 2 ^ m → rs[j]? = some (shk m q) → ∃ k, ns[fin ns v j]? = some (.leaf k) ∧ q[vIdx (v.drop (n - m))]? = some k := fun {q j} hj hq ej => by
        obtain ⟨m', a1, b1, _, _, f1⟩ := shk_ok m q hq
        obtain ⟨k, x, y⟩ := T.finds O hv t j (by omega) _ m' ej b1 (by omega)
        refine ⟨k, x, ?_⟩
        rw [f1 _ hlen, List.drop_drop, show n - m + (m - m') = n - m' by omega]
        exact y
      rw [← fin_step O hi, step_nod e2, hb, hdrop, vIdx, hlen]
      cases v[n - (m + 1)]
      · simp only [Bool.false_eq_true, if_false, Nat.zero_add]
        obtain ⟨k, x, y⟩ := sub b h1 f
        rw [List.getElem?_take_of_lt hlt] at y
        exact ⟨k, x, y⟩
      · simp only [if_true]
        obtain ⟨k, x, y⟩ := sub c h2 g
        rw [List.getElem?_drop] at y
        exact ⟨k, x, y⟩
end
end T50
end DL
namespace DL
open PySem PySem.Spec PyProof.Rows L2
local macro_rules | `(tactic| walk_at "ev") => `(tactic| try simp only [e_seq, e_next, e_brk, e_cnt, e_drop, e_ret, e_retN, e_ifS, e_asg, e_gN, e_gSb, e_gTp, e_gCn, e_gNl, e_var, e_varK, e_nth0, e_nthS, e_put0, e_putS, e_c, e_op, e_un, e_call, e_nil, e_cons, e_tup, e_lst, e_test, e_asB, e_tru, e_andT, e_orT, e_notT, e_andV, e_orV, e_notV, e_if, e_aug, e_augS, e_sl, e_part, e_partK, e_noPart, e_bm0, e_bm, e_join, e_yes, e_wipe0, e_wipeS, e_lc, e_for, v_add, v_addS, v_addT, v_iadd, v_sub, v_mul, v_fdiv, v_mod, v_pow, v_shl, v_shr, v_neg, v_lt, v_le, v_gt, v_ge, v_eqI, v_neI, v_eqS, v_neS, v_inS, v_ninS, v_inT, v_ninT, v_inR, v_ninR, v_inSeq, v_seqO, v_seqR, v_seqT, v_seqL, v_ixR, v_ixT, v_ixL, v_ixS, v_atK, v_atSK, v_get, v_getL, v_getK, v_set, v_setL, v_setK, v_on1, v_on2, v_lenR, v_lenT, v_lenL, v_lenS, v_seqK, v_tuple, v_list, v_abs, v_intI, v_intB, v_okL, v_isLst, v_app, v_lstK, v_slS, v_slT, v_join, v_is, v_isnot, v_max, v_min, v_iSeq, v_srcT, v_srcL, v_srcS, v_srcR, v_srcO, v_iRg1, v_rg1, v_truN, v_truB, v_truI, v_truS, v_truR, v_truT, v_truRol, v_truL, v_inRol, v_ninRol, v_inO, v_inOd, v_inDic, v_ixO, v_ixOd, v_ixSeq, v_ixDic, v_dgetK, v_ixStr, v_getO, v_getOd, v_setO, v_setOd, v_setDic, v_lenO, v_lenOd, e_dic0, e_disp, e_pairs0, e_pairsS, e_chain, v_bits, v_iRg3, v_rg3, v_iRg2, v_rg2, v_iEn, v_enT, v_enR, v_enO, v_iZp, v_zpT, v_zpR, v_zpO, v_repr, v_strI, v_strS, v_addR, v_and, v_slR, v_slL, v_ltS, v_srtT, v_srtR, v_srtO, v_srtD, v_revR, v_revT, v_isB, v_iZs, v_zsT, e_split, v_split, v_words, v_index, v_eqIS, v_neIS, v_eqB, v_neB])
mutual
/-- equal, with the same types all through -/
def sameB : D → D → Bool
  | x, .tup ys => match x with
    | .tup xs => sameBs xs ys
    | _ => false
  | x, .none => isNone x
  | x, .str z => match x with
    | .str w => decide (w = z)
    | _ => false
  | x, .int j => match x with
    | .int i => decide (i = j)
    | _ => false
  | x, .bool c => match x with
    | .bool b => decide (b = c)
    | _ => false
  | _, _ => false
def sameBs : List D → List D → Bool
  | [], [] => true
  | x :: xs, y :: ys => sameB x y && sameBs xs ys
  | _, _ => false
end
theorem sameBs_len : ∀ {xs ys : List D}, xs.length ≠ ys.length → sameBs xs ys = false
  | [], [], h => absurd rfl h
  | x :: xs, y :: ys, h => by
    have : sameBs xs ys = false := sameBs_len fun e => h (by rw [List.length_cons, List.length_cons, e])
    simp [sameBs, this]
  | [], y :: ys, _ => by simp [sameBs]
  | x :: xs, [], _ => by simp [sameBs]
theorem sameBs_all : ∀ {xs ys : List D}, xs.length = ys.length → sameBs xs ys = (List.range ys.length).all fun k => sameB (xs.getD k .none) (ys.getD k .none)
  | [], [], h => by simp [sameBs]
  | x :: xs, y :: ys, h => by
    have ih := sameBs_all (xs := xs) (ys := ys) (by simpa using h)
    rw [List.length_cons, List.range_succ_eq_map, List.all_cons, List.all_map]
    simp only [sameBs, ih]; rfl
  | [], y :: ys, h => by simp at h
  | x :: xs, [], h => by simp at h
mutual
/-- no list within, no tuple too long -/
def okY : D → Bool
  | .tup ds => decide (ds.length ≤ 100000) && okYs ds
  | .none => true
  | .bool _ => true
  | .int _ => true
  | .str _ => true
  | _ => false
def okYs : List D → Bool
  | [] => true
  | d :: ds => okY d && okYs ds
end
theorem okYs_mem : ∀ {ds : List D}, okYs ds = true → ∀ {x : D}, x ∈ ds → okY x = true
  | [], _, x, h => by simp at h
  | d :: ds, p, x, h => by
    have p' : okY d = true ∧ okYs ds = true := by simpa [okYs] using p
    rcases List.mem_cons.mp h with rfl | h
    · exact p'.1
    · exact okYs_mem p'.2 h
theorem okYs_of : ∀ {ds : List D}, (∀ x ∈ ds, okY x = true) → okYs ds = true
  | [], _ => by simp [okYs]
  | d :: ds, h => by simp only [okYs, h d (by simp), okYs_of (ds := ds) fun x hx => h x (by simp [hx])]; rfl
/-- things of these sizes alone -/
def sp__law_same : Nat → P1
  | 0 => fun _ _ _ => False
  | n + 1 => fun ds h Q => ∃ x y, ds = [x, y] ∧ n ≤ 50 ∧ pure? 60 x = true ∧ pure? n y = true ∧ okY y = true ∧ Q (.bool (sameB x y)) h
theorem len__law_same : ∀ n ds h Q, sp__law_same n ds h Q → ds.length = 2
  | 0, _, _, _, z => z.elim
  | n + 1, ds, h, Q, ⟨x, y, e, _⟩ => by rw [e]; rfl
theorem sat__law_same : ∀ n ds h Q, sp__law_same (n + 1) ds h Q → rd__law_same (sp__law_same n) (endN Q) (startD 3 ds) h := by
  rintro n ds h Q ⟨x, y, rfl, hn, px, py, oy, q⟩
  show rd__law_same (sp__law_same n) (endN Q) [some x, some y, none] h
  have q' := lh_of q
  have tx := ty_pure px h
  unfold rd__law_same
  walk_at "ev"
  cases y with
  | none =>
    rw [isi_eval (t := "NoneType") (n := "tuple") (b := false) rfl (by decide)]
    walk_at "ev"
    rw [if_neg Bool.false_ne_true]
    unfold rd__law_same_1
    walk_at "ev"
    rw [if_pos (show isNone D.none = true from rfl)]
    have e : sameB x .none = isNone x := by simp [sameB]
    rw [e] at q'
    exact q'
  | str z =>
    rw [isi_eval (t := "str") (n := "tuple") (b := false) rfl (by decide)]
    walk_at "ev"
    rw [if_neg Bool.false_ne_true]
    unfold rd__law_same_1
    walk_at "ev"
    rw [if_neg (show ¬ isNone (D.str z) = true from Bool.false_ne_true)]
    unfold rd__law_same_2
    walk_at "ev"
    rw [isi_eval (t := "str") (n := "str") (b := true) rfl (by decide)]
    walk_at "ev"
    rw [if_pos (by trivial)]
    have k : ∀ b : Bool, kitB (tyP x) "str" = some b → sameB x (.str z) = (b && eqF x (.str z)) → Lh Q (.bool (sameB x (.str z))) h → isiD x (.ty "str") h (asB fun c h1 => if c = true then eqD x (.str z) h1 (endN Q).rt else (endN Q).rt (.bool false) h1) := fun b kb e q => by
      rw [isi_eval tx kb, e_asB]
      cases b
      · rw [if_neg Bool.false_ne_true]
        rw [e, Bool.false_and] at q; exact q
      · rw [if_pos (by trivial), eqD_pure px (by simp [pure?])]
        rw [e, Bool.true_and] at q; exact q
    cases x with
    | str w => exact k true (by rfl) (by simp [sameB, eqF, pd, eqv_str]) q'
    | ref _ => simp [pure?] at px
    | ty _ => simp [pure?] at px
    | _ => exact k false (by rfl) (by simp [sameB]) q'
  | int j =>
    rw [isi_eval (t := "int") (n := "tuple") (b := false) rfl (by decide)]
    walk_at "ev"
    rw [if_neg Bool.false_ne_true]
    unfold rd__law_same_1
    walk_at "ev"
    rw [if_neg (show ¬ isNone (D.int j) = true from Bool.false_ne_true)]
    unfold rd__law_same_2
    walk_at "ev"
    rw [isi_eval (t := "int") (n := "str") (b := false) rfl (by decide)]
    walk_at "ev"
    rw [if_neg Bool.false_ne_true]
    unfold rd__law_same_3
    walk_at "ev"
    have k : ∀ b c : Bool, kitB (tyP x) "int" = some b → kitB (tyP x) "bool" = some c → sameB x (.int j) = (b && (!c && eqF x (.int j))) → isiD x (.ty "int") h (asB fun c h1 => if c = true then isiD x (.ty "bool") h1 fun x_1 h2 => isiD (.int j) (.ty "bool") h2 fun y h3 => eqD x_1 y h3 (asB fun c h1 => if c = true then eqD x (.int j) h1 (endN Q).rt else (endN Q).rt (.bool false) h1) else (endN Q).rt (.bool false) h1) := fun b c kb kc e => by
      rw [isi_eval tx kb, e_asB]
      rw [e] at q'
      cases b
      · rw [if_neg Bool.false_ne_true]
        rw [Bool.false_and] at q'; exact q'
      · rw [if_pos (by trivial), isi_eval tx kc, isi_eval (t := "int") (n := "bool") (b := false) rfl (by decide), v_eqB, e_asB]
        rw [Bool.true_and] at q'
        cases c
        · rw [if_pos (by trivial), eqD_pure px (by simp [pure?])]
          exact q'
        · rw [if_neg (by decide)]
          exact q'
    cases x with
    | int i => exact k true false (by rfl) (by rfl) (by simp [sameB, eqF, pd, eqv_int])
    | bool i => exact k true true (by rfl) (by rfl) (by simp [sameB])
    | ref _ => simp [pure?] at px
    | ty _ => simp [pure?] at px
    | _ => exact k false false (by rfl) (by rfl) (by simp [sameB])
  | bool j =>
    rw [isi_eval (t := "bool") (n := "tuple") (b := false) rfl (by decide)]
    walk_at "ev"
    rw [if_neg Bool.false_ne_true]
    unfold rd__law_same_1
    walk_at "ev"
    rw [if_neg (show ¬ isNone (D.bool j) = true from Bool.false_ne_true)]
    unfold rd__law_same_2
    walk_at "ev"
    rw [isi_eval (t := "bool") (n := "str") (b := false) rfl (by decide)]
    walk_at "ev"
    rw [if_neg Bool.false_ne_true]
    unfold rd__law_same_3
    walk_at "ev"
    have k : ∀ b c : Bool, kitB (tyP x) "int" = some b → kitB (tyP x) "bool" = some c → sameB x (.bool j) = (b && (c && eqF x (.bool j))) → isiD x (.ty "int") h (asB fun c h1 => if c = true then isiD x (.ty "bool") h1 fun x_1 h2 => isiD (.bool j) (.ty "bool") h2 fun y h3 => eqD x_1 y h3 (asB fun c h1 => if c = true then eqD x (.bool j) h1 (endN Q).rt else (endN Q).rt (.bool false) h1) else (endN Q).rt (.bool false) h1) := fun b c kb kc e => by
      rw [isi_eval tx kb, e_asB]
      rw [e] at q'
      cases b
      · rw [if_neg Bool.false_ne_true]
        rw [Bool.false_and] at q'; exact q'
      · rw [if_pos (by trivial), isi_eval tx kc, isi_eval (t := "bool") (n := "bool") (b := true) rfl (by decide), v_eqB, e_asB]
        rw [Bool.true_and] at q'
        cases c
        · rw [if_neg (by decide)]
          exact q'
        · rw [if_pos (by trivial), eqD_pure px (by simp [pure?])]
          exact q'
    cases x with
    | int i => exact k true false (by rfl) (by rfl) (by simp [sameB])
    | bool i => exact k true true (by rfl) (by rfl) (by cases i <;> cases j <;> rfl)
    | ref _ => simp [pure?] at px
    | ty _ => simp [pure?] at px
    | _ => exact k false false (by rfl) (by rfl) (by simp [sameB])
  | tup ys =>
    rw [isi_eval (t := "tuple") (n := "tuple") (b := true) rfl (by decide)]
    walk_at "ev"
    rw [if_pos (by trivial)]
    have no : sameB x (.tup ys) = false → Lh Q (.bool false) h := fun e => by rw [e] at q'; exact q'
    cases x with
    | ref _ => simp [pure?] at px
    | ty _ => simp [pure?] at px
    | none => rw [isi_eval (t := "NoneType") (n := "tuple") (b := false) rfl (by decide)]; walk_at "ev"; rw [if_pos (by trivial), if_pos (by trivial)]; exact no (by simp [sameB])
    | bool _ => rw [isi_eval (t := "bool") (n := "tuple") (b := false) rfl (by decide)]; walk_at "ev"; rw [if_pos (by trivial), if_pos (by trivial)]; exact no (by simp [sameB])
    | int _ => rw [isi_eval (t := "int") (n := "tuple") (b := false) rfl (by decide)]; walk_at "ev"; rw [if_pos (by trivial), if_pos (by trivial)]; exact no (by simp [sameB])
    | str _ => rw [isi_eval (t := "str") (n := "tuple") (b := false) rfl (by decide)]; walk_at "ev"; rw [if_pos (by trivial), if_pos (by trivial)]; exact no (by simp [sameB])
    | rol _ => rw [isi_eval (t := "list") (n := "tuple") (b := false) rfl (by decide)]; walk_at "ev"; rw [if_pos (by trivial), if_pos (by trivial)]; exact no (by simp [sameB])
    | tup xs =>
      rw [isi_eval (t := "tuple") (n := "tuple") (b := true) rfl (by decide)]
      walk_at "ev"
      rw [if_neg (by decide)]
      by_cases hl : xs.length = ys.length
      · rw [if_neg (by simp [hl])]
        walk_at "ev"
        have oy' : ys.length ≤ 100000 ∧ okYs ys = true := by simpa [okY] using oy
        refine ⟨⟨by omega, by omega⟩, ?_⟩
        have ee : sameB (.tup xs) (.tup ys) = ((List.range ys.length).map fun k => sameB (xs.getD k .none) (ys.getD k .none)).all id := by
          simp only [sameB, sameBs_all hl, List.all_map]; rfl
        refine lcT_t (List.range ys.length) (fun (i : Nat) => D.int i) (fun k => .bool (sameB (xs.getD k .none) (ys.getD k .none))) (rgD_0 _) (by rw [List.length_range]; exact Nat.le_trans oy'.1 (by decide)) trivial (fun k hk Q' hQ => ?_) fun p np => ?_
        · rw [List.mem_range] at hk
          walk_at "ev"
          have ex : xs[k]? = some (xs.getD k .none) := by rw [List.getD_eq_getElem?_getD, List.getElem?_eq_getElem (by omega)]; rfl
          have ey : ys[k]? = some (ys.getD k .none) := by rw [List.getD_eq_getElem?_getD, List.getElem?_eq_getElem (by omega)]; rfl
          rw [atI_of rfl ex, atI_of rfl ey]
          walk_at "ev"
          cases n with
          | zero => simp [pure?] at py
          | succ n =>
            have py' : pures? n ys = true := by simpa [pure?] using py
            have px' : pures? 59 xs = true := by simpa [pure?] using px
            exact ⟨_, _, rfl, by omega, pure_le (by omega) _ (pures_mem px' (List.mem_of_getElem? ex)), pures_mem py' (List.mem_of_getElem? ey), okYs_mem oy'.2 (List.mem_of_getElem? ey), hQ _ le.refl⟩
        · have : (List.map (fun k => D.bool (sameB (xs.getD k .none) (ys.getD k .none))) (List.range ys.length)) = (((List.range ys.length).map fun k => sameB (xs.getD k .none) (ys.getD k .none))).map D.bool := by rw [List.map_map]; rfl
          rw [this]
          refine all_bools ?_
          rw [← ee]
          exact lh_le (le_up np) q
      · rw [if_pos (by simp; omega)]
        exact no (by simp [sameB, sameBs_len hl])
  | rol _ => simp [okY] at oy
  | ref _ => simp [okY] at oy
  | ty _ => simp [okY] at oy
end DL
namespace DL
open PySem PySem.Spec PyProof.Rows L2 T50
local macro_rules | `(tactic| walk_at "ev") => `(tactic| try simp only [e_seq, e_next, e_brk, e_cnt, e_drop, e_ret, e_retN, e_ifS, e_asg, e_gN, e_gSb, e_gTp, e_gCn, e_gNl, e_var, e_varK, e_nth0, e_nthS, e_put0, e_putS, e_c, e_op, e_un, e_call, e_nil, e_cons, e_tup, e_lst, e_test, e_asB, e_tru, e_andT, e_orT, e_notT, e_andV, e_orV, e_notV, e_if, e_aug, e_augS, e_sl, e_part, e_partK, e_noPart, e_bm0, e_bm, e_join, e_yes, e_wipe0, e_wipeS, e_lc, e_for, v_add, v_addS, v_addT, v_iadd, v_sub, v_mul, v_fdiv, v_mod, v_pow, v_shl, v_shr, v_neg, v_lt, v_le, v_gt, v_ge, v_eqI, v_neI, v_eqS, v_neS, v_inS, v_ninS, v_inT, v_ninT, v_inR, v_ninR, v_inSeq, v_seqO, v_seqR, v_seqT, v_seqL, v_ixR, v_ixT, v_ixL, v_ixS, v_atK, v_atSK, v_get, v_getL, v_getK, v_set, v_setL, v_setK, v_on1, v_on2, v_lenR, v_lenT, v_lenL, v_lenS, v_seqK, v_tuple, v_list, v_abs, v_intI, v_intB, v_okL, v_isLst, v_app, v_lstK, v_slS, v_slT, v_join, v_is, v_isnot, v_max, v_min, v_iSeq, v_srcT, v_srcL, v_srcS, v_srcR, v_srcO, v_iRg1, v_rg1, v_truN, v_truB, v_truI, v_truS, v_truR, v_truT, v_truRol, v_truL, v_inRol, v_ninRol, v_inO, v_inOd, v_inDic, v_ixO, v_ixOd, v_ixSeq, v_ixDic, v_dgetK, v_ixStr, v_getO, v_getOd, v_setO, v_setOd, v_setDic, v_lenO, v_lenOd, e_dic0, e_disp, e_pairs0, e_pairsS, e_chain, v_bits, v_iRg3, v_rg3, v_iRg2, v_rg2, v_iEn, v_enT, v_enR, v_enO, v_iZp, v_zpT, v_zpR, v_zpO, v_repr, v_strI, v_strS, v_addR, v_and, v_slR, v_slL, v_ltS, v_srtT, v_srtR, v_srtO, v_srtD, v_revR, v_revT, v_isB, v_iZs, v_zsT, e_split, v_split, v_words, v_index, v_eqIS, v_neIS, v_eqB, v_neB])
def vD (v : List Bool) : D := .tup (v.map D.bool)
theorem allV_map : ∀ n, allV n = (List.range (2 ^ n)).map fun k => (List.range n).map fun j => decide (k / 2 ^ (n - 1 - j) % 2 = 1)
  | 0 => rfl
  | n + 1 => by
    have hd : ∀ k, (List.range (n + 1)).map (fun j => decide (k / 2 ^ (n + 1 - 1 - j) % 2 = 1)) = decide (k / 2 ^ n % 2 = 1) :: (List.range n).map fun j => decide (k / 2 ^ (n - 1 - j) % 2 = 1) := fun k => by
      rw [List.range_succ_eq_map, List.map_cons, List.map_map]
      congr 1
      refine List.map_congr_left fun j _ => ?_
      show decide (k / 2 ^ (n + 1 - 1 - (j + 1)) % 2 = 1) = _
      rw [show n + 1 - 1 - (j + 1) = n - 1 - j by omega]
    have hr : List.range (2 ^ n + 2 ^ n) = List.range (2 ^ n) ++ (List.range (2 ^ n)).map (2 ^ n + ·) := List.range_add ..
    rw [allV, allV_map n, List.map_map, List.map_map, Nat.pow_succ, show 2 ^ n * 2 = 2 ^ n + 2 ^ n by omega, hr, List.map_append, List.map_map]
    congr 1
    · refine List.map_congr_left fun k hk => ?_
      rw [List.mem_range] at hk
      rw [hd, Nat.div_eq_of_lt hk]; rfl
    · refine List.map_congr_left fun k hk => ?_
      rw [List.mem_range] at hk
      show _ = List.map (fun j => decide ((2 ^ n + k) / 2 ^ (n + 1 - 1 - j) % 2 = 1)) (List.range (n + 1))
      rw [hd]
      have h1 : (2 ^ n + k) / 2 ^ n = 1 := by
        rw [Nat.add_div_left _ (Nat.two_pow_pos n), Nat.div_eq_of_lt hk]
      rw [h1]
      show _ :: _ = _ :: _
      congr 1
      refine List.map_congr_left fun j hj => ?_
      rw [List.mem_range] at hj
      have e : 2 ^ n = 2 ^ (n - 1 - j) * (2 * 2 ^ j) := by
        rw [← Nat.mul_assoc, Nat.mul_comm _ 2, Nat.mul_assoc, ← Nat.pow_add, ← Nat.pow_succ']
        congr 1; omega
      have h2 : (2 ^ n + k) / 2 ^ (n - 1 - j) = 2 * 2 ^ j + k / 2 ^ (n - 1 - j) := by
        rw [e, Nat.mul_add_div (Nat.two_pow_pos _)]
      rw [h2]
      congr 2
      omega
def sp__law_valuations : P1 := fun ds h Q => ∃ n : Nat, ds = [.int n] ∧ n ≤ 20 ∧ ∀ l, h l = none → Q (.ref l) (up h l (.lst ((allV n).map vD)))
theorem len__law_valuations : ∀ ds h Q, sp__law_valuations ds h Q → ds.length = 1 := fun ds h Q ⟨n, e, _⟩ => by rw [e]; rfl
theorem pow_le20 {n : Nat} (h : n ≤ 20) : 2 ^ n ≤ 1048576 := Nat.pow_le_pow_right (by decide : 0 < 2) h
theorem sat__law_valuations : ∀ ds h Q, sp__law_valuations ds h Q → rd__law_valuations (endN Q) (startD 3 ds) h := by
  rintro ds h Q ⟨n, rfl, hn, q⟩
  show rd__law_valuations (endN Q) [some (.int n), none, none] h
  have hp := pow_le20 hn
  unfold rd__law_valuations
  walk_at "ev"
  refine ⟨⟨by omega, by omega, by decide⟩, ?_⟩
  have e : (1 : Int) * 2 ^ (n : Int).toNat = ((2 ^ n : Nat) : Int) := by rw [Int.one_mul, Int.toNat_natCast]; norm_cast
  rw [e]
  refine ⟨bnd62 hp, ?_⟩
  refine lcT_t (List.range (2 ^ n)) (fun (i : Nat) => D.int i) (fun k => vD ((List.range n).map fun j => decide (k / 2 ^ (n - 1 - j) % 2 = 1))) (rgD_0 _) (by rw [List.length_range]; exact Nat.le_trans hp (by decide)) trivial (fun k hk Q' hQ => ?_) fun p np => ?_
  · walk_at "ev"
    refine ⟨⟨by omega, by omega⟩, ?_⟩
    refine lcT_t (List.range n) (fun (i : Nat) => D.int i) (fun j => .bool (decide (k / 2 ^ (n - 1 - j) % 2 = 1))) (rgD_0 _) (by rw [List.length_range]; exact Nat.le_trans hn (by decide)) trivial (fun j hj Q2 hQ2 => ?_) fun p np => ?_
    · rw [List.mem_range] at hj
      walk_at "ev"
      have e1 : (n : Int) - 1 - (j : Int) = ((n - 1 - j : Nat) : Int) := by omega
      rw [e1]
      refine ⟨Int.natCast_nonneg _, ?_⟩
      have e2 : decide (Builtin.bitAnd ((k : Int) / 2 ^ ((n - 1 - j : Nat) : Int).toNat) 1 = 1) = decide (k / 2 ^ (n - 1 - j) % 2 = 1) := by
        rw [bitAnd_m1, Int.toNat_natCast]
        have : (k : Int) / 2 ^ (n - 1 - j) % 2 = ((k / 2 ^ (n - 1 - j) % 2 : Nat) : Int) := by norm_cast
        rw [this]
        exact decide_eq_decide.mpr (by omega)
      rw [e2]
      exact hQ2 _ le.refl
    · walk_at "ev"
      rw [up_same]
      walk_at "ev"
      rw [show (List.map (fun j => D.bool (decide (k / 2 ^ (n - 1 - j) % 2 = 1))) (List.range n)) = ((List.range n).map fun j => decide (k / 2 ^ (n - 1 - j) % 2 = 1)).map D.bool by rw [List.map_map]; rfl]
      exact hQ _ (le_up np)
  · have : (List.map (fun k => vD ((List.range n).map fun j => decide (k / 2 ^ (n - 1 - j) % 2 = 1))) (List.range (2 ^ n))) = (allV n).map vD := by rw [allV_map, List.map_map]; rfl
    rw [this]
    exact lh_of (q p np)
/-! rows -/
def rowD (r : List Nat) : D := .tup (r.map fun (x : Nat) => D.int x)
theorem pure_row (r : List Nat) : pure? 60 (rowD r) = true := by
  show pures? 59 _ = true
  refine pures_of fun x hx => ?_
  obtain ⟨y, _, rfl⟩ := List.mem_map.mp hx
  simp [pure?]
theorem eqvAll_nat : ∀ r s : List Nat, PyData.eqvAll (pds (r.map fun (x : Nat) => D.int x)) (pds (s.map fun (x : Nat) => D.int x)) = decide (r = s)
  | [], [] => by simp [pds, PyData.eqvAll]
  | [], y :: s => by simp [pds, PyData.eqvAll]
  | x :: r, [] => by simp [pds, PyData.eqvAll]
  | x :: r, y :: s => by
    simp only [List.map_cons, pds, pd, PyData.eqvAll, eqvAll_nat r s, eqv_int]
    by_cases h : x = y
    · subst h; simp
    · have : ¬ ((x : Int) = (y : Int)) := by omega
      simp [h, this]
theorem eqF_row (r s : List Nat) : eqF (rowD r) (rowD s) = decide (r = s) := by
  unfold eqF rowD
  simp only [pd, PyData.eqv]
  exact eqvAll_nat r s
def sp__law_shrunk : P1 := fun ds h Q => ∃ m r, ds = [rowD r] ∧ r.length = 2 ^ m ∧ m ≤ 20 ∧ Q (rowD (shk m r)) h
theorem len__law_shrunk : ∀ ds h Q, sp__law_shrunk ds h Q → ds.length = 1 := fun ds h Q ⟨m, r, e, _⟩ => by rw [e]; rfl
theorem v_slTr {r : List Nat} {lo hi : Option Int} {h : MH} {Q : KD} : slD (rowD r) lo hi h Q = Q (.tup (cutD (r.map fun (x : Nat) => D.int x) lo hi)) h := rfl
theorem v_lenTr {r : List Nat} {h : MH} {Q : KD} : lenD (rowD r) h Q = Q (.int r.length) h := by
  show Q (.int ((r.map _).length : Nat)) h = _
  rw [List.length_map]
def halfI : Nat → Nat
  | 0 => 0
  | m + 1 => 2 ^ m
theorem half_of (m : Nat) : 2 ^ m / 2 = halfI m := by
  cases m with
  | zero => rfl
  | succ m => show 2 ^ (m + 1) / 2 = 2 ^ m; rw [Nat.pow_succ]; omega
theorem half_div (m : Nat) : halfI (m + 1) / 2 = halfI m := half_of m
theorem half_divI (m : Nat) : ((halfI (m + 1) : Nat) : Int) / 2 = ((halfI m : Nat) : Int) := by
  have := half_div m
  omega
theorem sat__law_shrunk : ∀ ds h Q, sp__law_shrunk ds h Q → rd__law_shrunk (endN Q) (startD 2 ds) h := by
  rintro ds h Q ⟨m, r, rfl, hl, hm, q⟩
  show rd__law_shrunk (endN Q) [some (rowD r), none] h
  unfold rd__law_shrunk
  walk_at "ev"
  simp only [v_lenTr]
  walk_at "ev"
  refine ⟨divOk_2, ?_⟩
  unfold rd__law_shrunk_1
  walk_at "ev"
  have e0 : ((r.length : Nat) : Int) / 2 = ((halfI m : Nat) : Int) := by rw [hl, ← half_of]; omega
  rw [e0]
  unfold dWhile
  refine ⟨fun k σ hh => hh = h ∧ k ≤ m ∧ ∃ s, s.length = 2 ^ k ∧ shk k s = shk m r ∧ σ = [some (rowD s), some (.int (halfI k : Nat))], ⟨m, Lw.of ⟨rfl, Nat.le_refl _, r, hl, rfl, rfl⟩⟩, ?_⟩
  rintro k σ hh ⟨rfl, hk, s, hs, es, rfl⟩
  walk_at "ev"
  cases k with
  | zero =>
    rw [if_neg (by decide)]
    rw [if_neg Bool.false_ne_true]
    unfold rd__law_shrunk_2
    walk_at "ev"
    have es : s = shk m r := es
    rw [es]
    exact lh_of q
  | succ k =>
    have hpos : 0 < 2 ^ k := Nat.two_pow_pos k
    have hh1 : (0 : Int) < ((halfI (k + 1) : Nat) : Int) := by show (0 : Int) < ((2 ^ k : Nat) : Int); omega
    rw [decide_eq_true hh1, if_pos rfl]
    have hle : 2 ^ k ≤ s.length := by rw [hs, Nat.pow_succ]; omega
    simp only [v_slTr]
    show eqD (.tup (cutD _ none (some ((2 ^ k : Nat) : Int)))) (.tup (cutD _ (some ((2 ^ k : Nat) : Int)) none)) _ _
    rw [cut_to hle, cut_from hle]
    show eqD (rowD (s.take (2 ^ k))) (rowD (s.drop (2 ^ k))) _ _
    rw [eqD_pure (pure_row _) (pure_row _), eqF_row]
    walk_at "ev"
    rw [shk] at es
    by_cases e : s.take (2 ^ k) = s.drop (2 ^ k)
    · rw [if_pos e] at es
      rw [decide_eq_true e, if_pos rfl]
      unfold rd__law_shrunk_b1
      walk_at "ev"
      simp only [v_slTr]
      walk_at "ev"
      show rd__law_shrunk_b1_1 _ [some (.tup (cutD _ none (some ((2 ^ k : Nat) : Int)))), _] _
      rw [cut_to hle]
      unfold rd__law_shrunk_b1_1
      walk_at "ev"
      refine ⟨divOk_2, k, by omega, Lw.of ⟨rfl, by omega, s.take (2 ^ k), (half_len hs).1, es, ?_⟩⟩
      rw [half_divI]; rfl
    · rw [if_neg e] at es
      rw [decide_eq_false e, if_neg Bool.false_ne_true]
      unfold rd__law_shrunk_2
      walk_at "ev"
      rw [es]
      exact lh_of q
end DL
namespace DL
open PySem PySem.Spec PyProof.Rows L2 T50
local macro_rules | `(tactic| walk_at "ev") => `(tactic| try simp only [e_seq, e_next, e_brk, e_cnt, e_drop, e_ret, e_retN, e_ifS, e_asg, e_gN, e_gSb, e_gTp, e_gCn, e_gNl, e_var, e_varK, e_nth0, e_nthS, e_put0, e_putS, e_c, e_op, e_un, e_call, e_nil, e_cons, e_tup, e_lst, e_test, e_asB, e_tru, e_andT, e_orT, e_notT, e_andV, e_orV, e_notV, e_if, e_aug, e_augS, e_sl, e_part, e_partK, e_noPart, e_bm0, e_bm, e_join, e_yes, e_wipe0, e_wipeS, e_lc, e_for, v_add, v_addS, v_addT, v_iadd, v_sub, v_mul, v_fdiv, v_mod, v_pow, v_shl, v_shr, v_neg, v_lt, v_le, v_gt, v_ge, v_eqI, v_neI, v_eqS, v_neS, v_inS, v_ninS, v_inT, v_ninT, v_inR, v_ninR, v_inSeq, v_seqO, v_seqR, v_seqT, v_seqL, v_ixR, v_ixT, v_ixL, v_ixS, v_atK, v_atSK, v_get, v_getL, v_getK, v_set, v_setL, v_setK, v_on1, v_on2, v_lenR, v_lenT, v_lenL, v_lenS, v_seqK, v_tuple, v_list, v_abs, v_intI, v_intB, v_okL, v_isLst, v_app, v_lstK, v_slS, v_slT, v_join, v_is, v_isnot, v_max, v_min, v_iSeq, v_srcT, v_srcL, v_srcS, v_srcR, v_srcO, v_iRg1, v_rg1, v_truN, v_truB, v_truI, v_truS, v_truR, v_truT, v_truRol, v_truL, v_inRol, v_ninRol, v_inO, v_inOd, v_inDic, v_ixO, v_ixOd, v_ixSeq, v_ixDic, v_dgetK, v_ixStr, v_getO, v_getOd, v_setO, v_setOd, v_setDic, v_lenO, v_lenOd, e_dic0, e_disp, e_pairs0, e_pairsS, e_chain, v_bits, v_iRg3, v_rg3, v_iRg2, v_rg2, v_iEn, v_enT, v_enR, v_enO, v_iZp, v_zpT, v_zpR, v_zpO, v_repr, v_strI, v_strS, v_addR, v_and, v_slR, v_slL, v_ltS, v_srtT, v_srtR, v_srtO, v_srtD, v_revR, v_revT, v_isB, v_iZs, v_zsT, e_split, v_split, v_words, v_index, v_eqIS, v_neIS, v_eqB, v_neB])
/-! names -/
theorem nks_row : ∀ r : List Nat, nks (r.map fun (x : Nat) => D.int x) = some (r.map fun (x : Nat) => NestedKey.num x)
  | [] => by simp [nks]
  | x :: r => by simp only [List.map_cons, nks, nk, nks_row r]
theorem nk_row (r : List Nat) : nk (rowD r) = some (.tup (r.map fun (x : Nat) => NestedKey.num x)) := by
  unfold rowD
  simp only [nk, nks_row]; rfl
theorem nk_row_inj {r s : List Nat} : (nk (rowD r) = nk (rowD s)) ↔ r = s := by
  constructor
  · intro h
    rw [nk_row, nk_row] at h
    have h2 : (r.map fun (x : Nat) => NestedKey.num x) = s.map fun (x : Nat) => NestedKey.num x := by
      injection h with h; injection h
    have : ∀ r s : List Nat, (r.map fun (x : Nat) => NestedKey.num x) = (s.map fun (x : Nat) => NestedKey.num x) → r = s := by
      intro r
      induction r with
      | nil => intro s h; cases s with
        | nil => rfl
        | cons y s => cases h
      | cons x r ih => intro s h; cases s with
        | nil => cases h
        | cons y s =>
          rw [List.map_cons, List.map_cons] at h
          injection h with h1 h2
          injection h1 with h1
          rw [ih s h2, show x = y by omega]
    exact this r s h2
  · intro h; rw [h]
theorem depth_row : ∀ r : List Nat, NestedKey.depthAll (r.map fun (x : Nat) => NestedKey.num x) ≤ 1
  | [] => by simp [NestedKey.depthAll]
  | x :: r => by
    have := depth_row r
    simp only [List.map_cons, NestedKey.depthAll, NestedKey.depth]; omega
theorem tupK_row (r : List Nat) : tupK (rowD r) = true := by
  have d := depth_row r
  have e : nk (.tup (r.map fun (x : Nat) => D.int x)) = some (.tup (r.map fun (x : Nat) => NestedKey.num x)) := nk_row r
  unfold rowD tupK
  simp only [e, NestedKey.depth]
  exact decide_eq_true (by omega)
def nmF (p : List Nat × Nat) : D × D := (rowD p.1, .int (p.2 : Nat))
def nmD (rs : List (List Nat)) : Kvs := rs.zipIdx.map nmF
theorem nm_all (rs : List (List Nat)) : (nmD rs).all (fun p => tupK p.1) = true := by
  rw [List.all_eq_true]
  intro p hp
  obtain ⟨q, _, rfl⟩ := List.mem_map.mp hp
  exact tupK_row _
theorem fit_nm (rs : List (List Nat)) (r : List Nat) : fit (nmD rs) (rowD r) = true := by
  unfold fit
  rw [tupK_row, nm_all]; simp
theorem find_nm {r : List Nat} : ∀ (rs : List (List Nat)) (o : Nat), (r ∉ rs → ((rs.zipIdx o).map nmF).find? (fun p => decide (nk p.1 = nk (rowD r))) = none) ∧
    (∀ p, rs.Nodup → rs[p]? = some r → ((rs.zipIdx o).map nmF).find? (fun p => decide (nk p.1 = nk (rowD r))) = some (rowD r, .int ((o + p : Nat) : Int)))
  | [], o => ⟨fun _ => rfl, fun p _ h => by simp at h⟩
  | x :: rs, o => by
    obtain ⟨h1, h2⟩ := find_nm (r := r) rs (o + 1)
    rw [List.zipIdx_cons, List.map_cons, List.find?_cons]
    have key : decide (nk (nmF (x, o)).1 = nk (rowD r)) = decide (x = r) := decide_eq_decide.mpr nk_row_inj
    rw [key]
    refine ⟨fun nm => ?_, fun p nd hp => ?_⟩
    · rw [List.mem_cons, not_or] at nm
      rw [decide_eq_false (Ne.symm nm.1)]
      exact h1 nm.2
    · rw [List.nodup_cons] at nd
      cases p with
      | zero =>
        have e : x = r := by simpa using hp
        subst e
        rw [decide_eq_true rfl]; rfl
      | succ p =>
        have hp : rs[p]? = some r := by simpa using hp
        have ne : x ≠ r := fun e => nd.1 (e ▸ List.mem_of_getElem? hp)
        rw [decide_eq_false ne]
        have := h2 p nd.2 hp
        rw [show o + (p + 1) = o + 1 + p by omega]
        exact this
theorem dget_nm {rs : List (List Nat)} {r : List Nat} {p : Nat} (nd : rs.Nodup) (h : rs[p]? = some r) : dget (nmD rs) (rowD r) = some (.int (p : Nat)) := by
  unfold dget nmD
  rw [(find_nm (r := r) rs 0).2 p nd h, Nat.zero_add]; rfl
theorem dget_no {rs : List (List Nat)} {r : List Nat} (h : r ∉ rs) : dget (nmD rs) (rowD r) = none := by
  unfold dget nmD
  rw [(find_nm (r := r) rs 0).1 h]; rfl
theorem dset_nm {rs : List (List Nat)} {r : List Nat} (h : r ∉ rs) : dset (nmD rs) (rowD r) (.int (rs.length : Nat)) = nmD (rs ++ [r]) := by
  unfold dset
  rw [dget_no h, if_neg (by decide)]
  unfold nmD
  rw [List.zipIdx_append, List.map_append]
  simp [nmF]
theorem nm_len (rs : List (List Nat)) : (nmD rs).length = rs.length := by unfold nmD; rw [List.length_map, List.length_zipIdx]
/-! nodes -/
def encN (vs : List D) : Nod → D
  | .leaf k => .tup [.str (Str.ofString "leaf"), vs.getD k .none]
  | .nod a l h => .tup [.int (a : Nat), .int (l : Nat), .int (h : Nat)]
def sp__law_put : Nat → P1
  | 0 => fun _ _ _ => False
  | d + 1 => fun ds h Q => ∃ r m n vl vs a b rs ns, ds = [rowD r, .int (n : Nat), .ref vl, .ref a, .ref b] ∧ m ≤ d ∧ m ≤ n ∧ n ≤ 20 ∧ r.length = 2 ^ m ∧ Nosh m r ∧ (∀ x ∈ r, x < vs.length) ∧ h vl = some (.lst vs) ∧ h a = some (.lst (ns.map (encN vs))) ∧ h b = some (.dic (nmD rs)) ∧ vl ≠ a ∧ vl ≠ b ∧ a ≠ b ∧
      Tb n vs.length rs ns ∧ rs.length + 2 ^ (m + 1) ≤ 2 ^ 23 ∧ ∀ rs' ns' p, Tb n vs.length rs' ns' → rs'.length + 1 ≤ rs.length + 2 ^ (m + 1) → (∀ x ∈ rs', x ∈ rs ∨ x.length ≤ r.length) → (∃ t, rs' = rs ++ t) → rs'[p]? = some r → (r ∉ rs → p + 1 = rs'.length) → Q (.int (p : Nat)) (up (up h a (.lst (ns'.map (encN vs)))) b (.dic (nmD rs')))
theorem len__law_put : ∀ n ds h Q, sp__law_put n ds h Q → ds.length = 5
  | 0, _, _, _, z => z.elim
  | n + 1, ds, h, Q, ⟨_, _, _, _, _, _, _, _, _, e, _⟩ => by rw [e]; rfl
theorem v_lenRow {r : List Nat} {h : MH} {Q : KD} : lenD (rowD r) h Q = Q (.int r.length) h := v_lenTr
theorem bits_pow (m : Nat) : Builtin.Int.intBits (((2 ^ m : Nat) : Int)) = m + 1 := by
  have hp := Nat.two_pow_pos m
  unfold Builtin.Int.intBits
  rw [if_neg (by rw [beq_iff_eq]; omega), Int.natAbs_natCast, Nat.log2_two_pow]
/-- the end of put: what was made is named -/
theorem put_3 {P : P1} {Q : KD} {h : MH} {r : List Nat} {n : Int} {vl a b : Addr} {ns : List Nod} {rs : List (List Nat)} {vs : List D} {x5 x6 x7 : Option D} {x : Nod} (ab : a ≠ b) (nm : r ∉ rs) (hl : ns.length = rs.length) (hz : rs.length < sizeLine)
    (nd : (rs ++ [r]).Nodup) (q : Q (.int (rs.length : Nat)) (up (up h a (.lst ((ns ++ [x]).map (encN vs)))) b (.dic (nmD (rs ++ [r]))))) :
    rd__law_put_3 P sp__law_shrunk (endN Q) [some (rowD r), some (.int n), some (.ref vl), some (.ref a), some (.ref b), x5, x6, x7] (up (up h a (.lst ((ns ++ [x]).map (encN vs)))) b (.dic (nmD rs))) := by
  unfold rd__law_put_3
  walk_at "ev"
  rw [up_ne ab, up_same]
  walk_at "ev"
  rw [up_same]
  walk_at "ev"
  have e : (((ns ++ [x]).map (encN vs)).length : Int) - 1 = ((rs.length : Nat) : Int) := by rw [List.length_map, List.length_append, List.length_singleton, hl]; omega
  rw [e, dset_nm nm]
  refine ⟨fit_nm _ _, by rw [nm_len]; exact hz, ?_⟩
  unfold rd__law_put_4
  walk_at "ev"
  rw [up_same]
  walk_at "ev"
  refine ⟨fit_nm _ _, ?_⟩
  rw [dget_nm (p := rs.length) nd get_last]
  walk_at "ev"
  rw [up_up]
  exact lh_of q
theorem sat__law_put : ∀ d ds h Q, sp__law_put (d + 1) ds h Q → rd__law_put (sp__law_put d) sp__law_shrunk (endN Q) (startD 8 ds) h := by
  rintro d ds h Q ⟨r, m, n, vl, vs, a, b, rs, ns, rfl, hmd, hmn, hn, hl, ho, hx, ev, ea, eb, va, vb, ab, T, hz, q⟩
  show rd__law_put (sp__law_put d) sp__law_shrunk (endN Q) [some (rowD r), some (.int (n : Nat)), some (.ref vl), some (.ref a), some (.ref b), none, none, none] h
  have hp := Nat.two_pow_pos m
  have hs : (2 : Nat) ^ 23 < sizeLine := by decide
  have hm1 : 2 ^ (m + 1) = 2 ^ m + 2 ^ m := by rw [Nat.pow_succ]; omega
  unfold rd__law_put
  walk_at "ev"
  rw [eb]
  walk_at "ev"
  refine ⟨fit_nm _ _, ?_⟩
  by_cases hin : r ∈ rs
  · obtain ⟨p, hp1, hp2⟩ := List.mem_iff_getElem.mp hin
    have e : rs[p]? = some r := by rw [List.getElem?_eq_getElem hp1, hp2]
    rw [dget_nm T.nd e]
    rw [if_pos (by rfl)]
    walk_at "ev"
    refine ⟨fit_nm _ _, ?_⟩
    have := q rs ns p T (by omega) (fun x hx => .inl hx) ⟨[], by simp⟩ e fun z => absurd hin z
    rw [up_id ea, up_id eb] at this
    exact lh_of this
  · rw [dget_no hin, if_neg (by decide)]
    unfold rd__law_put_1
    walk_at "ev"
    simp only [v_lenRow]
    walk_at "ev"
    refine ⟨divOk_2, ?_⟩
    have e0 : ((r.length : Nat) : Int) / 2 = ((halfI m : Nat) : Int) := by rw [hl, ← half_of]; omega
    rw [e0]
    unfold rd__law_put_2
    walk_at "ev"
    cases m with
    | zero =>
      rw [if_pos (by decide)]
      obtain ⟨k, rfl⟩ : ∃ k, r = [k] := List.length_eq_one_iff.mp hl
      have hk : k < vs.length := hx k (by simp)
      have T2 := T.leaf hin hk
      rw [ea]
      walk_at "ev"
      refine ⟨trivial, ?_⟩
      have ei : ixD (rowD [k]) (.int 0) h = fun Q => Q (.int (k : Nat)) h := rfl
      simp only [ei, ev]
      walk_at "ev"
      have ek : vs[k]? = some (vs.getD k .none) := by rw [List.getD_eq_getElem?_getD, List.getElem?_eq_getElem hk]; rfl
      rw [atI_of rfl ek]
      walk_at "ev"
      refine ⟨by show 2 ≤ sizeLine; decide, ?_⟩
      rw [ea]
      walk_at "ev"
      refine ⟨by rw [List.length_map, T.len]; omega, ?_⟩
      have eu : up h a (.lst (ns.map (encN vs) ++ [.tup [.str (Str.ofString "leaf"), vs.getD k .none]])) = up (up h a (.lst ((ns ++ [Nod.leaf k]).map (encN vs)))) b (.dic (nmD rs)) := by
        rw [List.map_append]
        have e1 : ∀ x : MO, up h a x b = some (.dic (nmD rs)) := fun x => by rw [up_ne ab.symm]; exact eb
        exact (up_id (e1 _)).symm
      rw [eu]
      refine put_3 ab hin T.len (by omega) T2.nd ?_
      refine q _ _ _ T2 (by rw [List.length_append, List.length_singleton]; omega) (fun x hx => ?_) ⟨_, rfl⟩ get_last fun _ => by rw [List.length_append]; rfl
      rcases List.mem_append.mp hx with hx | hx
      · exact .inl hx
      · rw [List.mem_singleton.mp hx]; exact .inr (Nat.le_refl _)
    | succ m =>
      have hp2 := Nat.two_pow_pos m
      have hm2 : 2 ^ (m + 1) = 2 ^ m + 2 ^ m := by rw [Nat.pow_succ]; omega
      have hI : halfI (m + 1) = 2 ^ m := rfl
      rw [hI]
      have hne : ¬ (decide (((2 ^ m : Nat) : Int) = 0) = true) := by rw [decide_eq_true_eq]; omega
      rw [if_neg hne]
      walk_at "ev"
      have hle : 2 ^ m ≤ r.length := by rw [hl]; omega
      obtain ⟨hl1, hl2⟩ := half_len hl
      simp only [v_slTr, cut_to hle]
      obtain ⟨m1, ml1, sl1, so1, sm1, _⟩ := shk_ok m (r.take (2 ^ m)) hl1
      obtain ⟨m2, ml2, sl2, so2, sm2, _⟩ := shk_ok m (r.drop (2 ^ m)) hl2
      have pw : ∀ {k}, k ≤ m → 2 ^ (k + 1) ≤ 2 ^ (m + 1) := fun {k} hk => Nat.pow_le_pow_right (by decide) (by omega)
      have pw0 : ∀ {k}, k ≤ m → 2 ^ k ≤ 2 ^ m := fun {k} hk => Nat.pow_le_pow_right (by decide) hk
      have p1 := pw ml1
      have p2 := pw ml2
      cases d with
      | zero => omega
      | succ d =>
      refine ⟨m, r.take (2 ^ m), rfl, hl1, by omega, ?_⟩
      walk_at "ev"
      refine ⟨_, m1, n, vl, vs, a, b, rs, ns, rfl, by omega, by omega, hn, sl1, so1, fun x hx' => hx x (List.mem_of_mem_take (sm1 x hx')), ev, ea, eb, va, vb, ab, T, by omega, fun rs1 ns1 l T1 z1 in1 ⟨t1, ht1⟩ el _ => ?_⟩
      walk_at "ev"
      simp only [v_slTr, cut_from hle]
      refine ⟨m, r.drop (2 ^ m), rfl, hl2, by omega, ?_⟩
      walk_at "ev"
      refine ⟨_, m2, n, vl, vs, a, b, rs1, ns1, rfl, by omega, by omega, hn, sl2, so2, fun x hx' => hx x (List.mem_of_mem_drop (sm2 x hx')), by rw [up_ne vb, up_ne va]; exact ev, by rw [up_ne ab, up_same], up_same, va, vb, ab, T1, by omega, fun rs2 ns2 hh T2 z2 in2 ⟨t2, ht2⟩ eh _ => ?_⟩
      walk_at "ev"
      rw [up4 ab, up_ne ab, up_same]
      walk_at "ev"
      have nin : r ∉ rs2 := fun hr => by
        rcases in2 r hr with hr | hr
        · rcases in1 r hr with hr | hr
          · exact hin hr
          · have := pw0 ml1; rw [hl, sl1] at hr; omega
        · have := pw0 ml2; rw [hl, sl2] at hr; omega
      have el2 : rs2[l]? = some (shk m (r.take (2 ^ m))) := by rw [ht2]; exact get_app el
      have T3 := T2.nod nin hx hmn hl ho el2 eh
      rw [bits_pow]
      have ea2 : (n : Int) - ((m + 1 : Nat) : Int) = ((n - (m + 1) : Nat) : Int) := by omega
      rw [ea2]
      refine ⟨trivial, by show 3 ≤ sizeLine; decide, ?_⟩
      refine ⟨by rw [List.length_map, T2.len]; omega, ?_⟩
      have eu : up (up (up h a (.lst (ns2.map (encN vs)))) b (.dic (nmD rs2))) a (.lst (ns2.map (encN vs) ++ [.tup [.int ((n - (m + 1) : Nat) : Int), .int (l : Nat), .int (hh : Nat)]])) = up (up h a (.lst ((ns2 ++ [Nod.nod (n - (m + 1)) l hh]).map (encN vs)))) b (.dic (nmD rs2)) := by
        rw [up3 ab, List.map_append]; rfl
      rw [eu]
      refine put_3 ab nin T2.len (by omega) T3.nd ?_
      refine q _ _ _ T3 (by rw [List.length_append, List.length_singleton]; omega) (fun x hx => ?_) ⟨t1 ++ t2 ++ [r], by rw [ht2, ht1]; simp⟩ get_last fun _ => by rw [List.length_append]; rfl
      rcases List.mem_append.mp hx with hx | hx
      · rcases in2 x hx with hx | hx
        · rcases in1 x hx with hx | hx
          · exact .inl hx
          · right; have := pw0 ml1; omega
        · right; have := pw0 ml2; omega
      · rw [List.mem_singleton.mp hx]; exact .inr (Nat.le_refl _)
/-- a table of a row -/
def TabOk (n : Nat) (vs : List D) (row : List Nat) (ns : List Nod) : Prop := ∃ rs, Tb n vs.length rs ns ∧ rs[ns.length - 1]? = some (shk n row) ∧ 0 < ns.length ∧ ns.length < 2 ^ (n + 1)
def sp__law_nodes : P1 := fun ds h Q => ∃ rl row n vl vs, ds = [.ref rl, .int (n : Nat), .ref vl] ∧ n ≤ 8 ∧ row.length = 2 ^ n ∧ (∀ x ∈ row, x < vs.length) ∧ h rl = some (.lst (row.map fun (x : Nat) => D.int x)) ∧ h vl = some (.lst vs) ∧ ∀ ns, TabOk n vs row ns → Q (.tup (ns.map (encN vs))) h
theorem len__law_nodes : ∀ ds h Q, sp__law_nodes ds h Q → ds.length = 3 := fun ds h Q ⟨_, _, _, _, _, e, _⟩ => by rw [e]; rfl
theorem sat__law_nodes : ∀ ds h Q, sp__law_nodes ds h Q → rd__law_nodes (sp__law_put 9) sp__law_shrunk (endN Q) (startD 4 ds) h := by
  rintro ds h Q ⟨rl, row, n, vl, vs, rfl, hn, hl, hx, er, ev, q⟩
  show rd__law_nodes (sp__law_put 9) sp__law_shrunk (endN Q) [some (.ref rl), some (.int (n : Nat)), some (.ref vl), none] h
  unfold rd__law_nodes
  walk_at "ev"
  refine ⟨by decide, fun a na => ?_⟩
  have ra : rl ≠ a := nef er na
  have va : vl ≠ a := nef ev na
  unfold rd__law_nodes_1
  walk_at "ev"
  rw [up_ne ra, er]
  walk_at "ev"
  refine ⟨n, row, rfl, hl, by omega, ?_⟩
  walk_at "ev"
  intro b nb
  have ab : a ≠ b := nef up_same nb
  have nb' : h b = none := by rw [up_ne ab.symm] at nb; exact nb
  have vb : vl ≠ b := nef ev nb'
  obtain ⟨m, hm, sl, so, sm, _⟩ := shk_ok n row hl
  have pm : 2 ^ (m + 1) ≤ 2 ^ (n + 1) := Nat.pow_le_pow_right (by decide) (by omega)
  have pn : 2 ^ (n + 1) ≤ 2 ^ 9 := Nat.pow_le_pow_right (by decide) (by omega)
  refine ⟨_, m, n, vl, vs, a, b, [], [], rfl, (Nat.le_trans hm hn : m ≤ 8), hm, by omega, sl, so, fun x h => hx x (sm x h), by rw [up_ne vb, up_ne va]; exact ev, by rw [up_ne ab, up_same]; rfl, up_same, va, vb, ab, tb_nil, by rw [List.length_nil]; omega, fun rs' ns' p T z _ _ ep last => ?_⟩
  have hp := last (by simp)
  unfold rd__law_nodes_2
  walk_at "ev"
  rw [up_ne ab, up_same]
  walk_at "ev"
  rw [List.length_nil] at z
  have e : p = ns'.length - 1 := by rw [T.len]; omega
  subst e
  refine ⟨h, ?_, q ns' ⟨rs', T, ep, by rw [T.len]; omega, by rw [T.len]; omega⟩⟩
  rw [up4 ab]
  exact (le.up na).trans (le.up (by rw [up_ne ab.symm]; exact nb'))
end DL
namespace DL
open PySem PySem.Spec PyProof.Rows L2 T50
local macro_rules | `(tactic| walk_at "ev") => `(tactic| try simp only [e_seq, e_next, e_brk, e_cnt, e_drop, e_ret, e_retN, e_ifS, e_asg, e_gN, e_gSb, e_gTp, e_gCn, e_gNl, e_var, e_varK, e_nth0, e_nthS, e_put0, e_putS, e_c, e_op, e_un, e_call, e_nil, e_cons, e_tup, e_lst, e_test, e_asB, e_tru, e_andT, e_orT, e_notT, e_andV, e_orV, e_notV, e_if, e_aug, e_augS, e_sl, e_part, e_partK, e_noPart, e_bm0, e_bm, e_join, e_yes, e_wipe0, e_wipeS, e_lc, e_for, v_add, v_addS, v_addT, v_iadd, v_sub, v_mul, v_fdiv, v_mod, v_pow, v_shl, v_shr, v_neg, v_lt, v_le, v_gt, v_ge, v_eqI, v_neI, v_eqS, v_neS, v_inS, v_ninS, v_inT, v_ninT, v_inR, v_ninR, v_inSeq, v_seqO, v_seqR, v_seqT, v_seqL, v_ixR, v_ixT, v_ixL, v_ixS, v_atK, v_atSK, v_get, v_getL, v_getK, v_set, v_setL, v_setK, v_on1, v_on2, v_lenR, v_lenT, v_lenL, v_lenS, v_seqK, v_tuple, v_list, v_abs, v_intI, v_intB, v_okL, v_isLst, v_app, v_lstK, v_slS, v_slT, v_join, v_is, v_isnot, v_max, v_min, v_iSeq, v_srcT, v_srcL, v_srcS, v_srcR, v_srcO, v_iRg1, v_rg1, v_truN, v_truB, v_truI, v_truS, v_truR, v_truT, v_truRol, v_truL, v_inRol, v_ninRol, v_inO, v_inOd, v_inDic, v_ixO, v_ixOd, v_ixSeq, v_ixDic, v_dgetK, v_ixStr, v_getO, v_getOd, v_setO, v_setOd, v_setDic, v_lenO, v_lenOd, e_dic0, e_disp, e_pairs0, e_pairsS, e_chain, v_bits, v_iRg3, v_rg3, v_iRg2, v_rg2, v_iEn, v_enT, v_enR, v_enO, v_iZp, v_zpT, v_zpR, v_zpO, v_repr, v_strI, v_strS, v_addR, v_and, v_slR, v_slL, v_ltS, v_srtT, v_srtR, v_srtO, v_srtD, v_revR, v_revT, v_isB, v_iZs, v_zsT, e_split, v_split, v_words, v_index, v_eqIS, v_neIS, v_eqB, v_neB])
def pairD (p : Nat × Bool) : D := .tup [.int (p.1 : Nat), .bool p.2]
def prsD (ps : List (Nat × Bool)) : D := .tup (ps.map pairD)
def sp__law_pairs : P1 := fun ds h Q => ∃ a c cs, ∃ n : Nat, ∃ share : Int, ds = [.ref a, .int n, .int share] ∧ n ≤ 20 ∧ 0 < share ∧ share < 2 ^ 64 ∧ Dr a c cs h ∧ ∀ ps o, ps.length ≤ n → (∀ p ∈ ps, p.1 < n) → DrO c o → Q (prsD ps) (up h a o)
theorem len__law_pairs : ∀ ds h Q, sp__law_pairs ds h Q → ds.length = 3 := fun ds h Q ⟨_, _, _, _, _, e, _⟩ => by rw [e]; rfl
theorem sat__law_pairs : ∀ ds h Q, sp__law_pairs ds h Q → rd__law_pairs sp__law_draw (endN Q) (startD 5 ds) h := by
  rintro ds h Q ⟨a, c, cs, n, share, rfl, hn, hs, hs2, d, q⟩
  show rd__law_pairs sp__law_draw (endN Q) [some (.ref a), some (.int n), some (.int share), none, none] h
  unfold rd__law_pairs
  walk_at "ev"
  refine ⟨by decide, fun fd nfd => ?_⟩
  obtain ⟨o0, e0, k0⟩ := d.st
  have afd : a ≠ fd := nef e0 nfd
  have cfd : c ≠ fd := nef d.ce nfd
  unfold rd__law_pairs_1
  walk_at "ev"
  refine ⟨bnd62 (by omega), ?_⟩
  refine ⟨fun i σ hh => ∃ o ps k, DrO c o ∧ ps.length ≤ i ∧ (∀ p ∈ ps, p.1 < n) ∧ σ = [some (.ref a), some (.int n), some (.int share), some (.ref fd), k] ∧ hh = up (up h a o) fd (.lst (ps.map pairD)), Lw.of ⟨o0, [], none, k0, Nat.le_refl _, by simp, rfl, by rw [up_id e0]; rfl⟩, fun _ _ _ _ => trivial, ?_, ?_⟩
  · rintro i x σ hh hx ⟨o, ps, k, kk, hl, hp, rfl, rfl⟩
    obtain ⟨hi, rfl⟩ := rg_at hx
    have d1 : Dr a c cs (up (up h a o) fd (.lst (ps.map pairD))) := (d.up kk).put afd cfd
    walk_at "ev"
    unfold rd__law_pairs_b1
    walk_at "ev"
    refine ⟨a, c, cs, share, rfl, hs, hs2, d1, fun r o2 r0 r1 k2 => ?_⟩
    walk_at "ev"
    split
    · walk_at "ev"
      rw [up3 afd, up_same]
      walk_at "ev"
      refine ⟨trivial, a, c, cs, 2, rfl, by decide, by decide, (d.up k2).put afd cfd, fun r2 o3 _ _ k3 => ?_⟩
      walk_at "ev"
      rw [up3 afd, up_same]
      walk_at "ev"
      refine ⟨by show 2 ≤ sizeLine; decide, sl_lt (by rw [List.length_map]; omega), Lw.of ⟨o3, ps ++ [(i, decide (r2 = 0))], _, k3, by rw [List.length_append, List.length_singleton]; omega, fun p hp' => ?_, rfl, ?_⟩⟩
      · rcases List.mem_append.mp hp' with hp' | hp'
        · exact hp p hp'
        · rw [List.mem_singleton.mp hp']; exact hi
      · rw [up_up, List.map_append]; rfl
    · walk_at "ev"
      exact Lw.of ⟨o2, ps, _, k2, by omega, hp, rfl, by rw [up3 afd]⟩
  · rintro σ hh ⟨o, ps, k, kk, hl, hp, rfl, rfl⟩
    rw [rg_len] at hl
    walk_at "ev"
    unfold rd__law_pairs_2
    walk_at "ev"
    rw [up_same]
    walk_at "ev"
    refine lh_le (le.up ?_) (q ps o hl hp kk)
    rw [up_ne afd.symm]; exact nfd
/-- whether a valuation has these truths -/
def agrees (v : List Bool) (ps : List (Nat × Bool)) : Bool := ps.all fun p => bit v p.1 == p.2
def sp__law_agrees : P1 := fun ds h Q => ∃ v ps, ds = [vD v, prsD ps] ∧ ps.length ≤ 1000000 ∧ (∀ p ∈ ps, p.1 < v.length) ∧ Q (.bool (agrees v ps)) h
theorem len__law_agrees : ∀ ds h Q, sp__law_agrees ds h Q → ds.length = 2 := fun ds h Q ⟨_, _, e, _⟩ => by rw [e]; rfl
theorem v_get_at {v : List Bool} {k : Nat} (h : k < v.length) : (v.map D.bool)[k]? = some (.bool (bit v k)) := by
  rw [List.getElem?_map, List.getElem?_eq_getElem h]
  unfold bit
  rw [List.getD_eq_getElem?_getD, List.getElem?_eq_getElem h]; rfl
theorem ixV {v : List Bool} {k : Nat} {h : MH} {Q : KD} (hk : k < v.length) : ixD (vD v) (.int (k : Nat)) h Q = Q (.bool (bit v k)) h := by
  show atK (atI (v.map D.bool) (k : Nat)) h Q = _
  rw [atI_of rfl (v_get_at hk)]; rfl
theorem sat__law_agrees : ∀ ds h Q, sp__law_agrees ds h Q → rd__law_agrees (endN Q) (startD 3 ds) h := by
  rintro ds h Q ⟨v, ps, rfl, hl, hp, q⟩
  show rd__law_agrees (endN Q) [some (vD v), some (prsD ps), none] h
  unfold rd__law_agrees
  walk_at "ev"
  show srcD (.tup (ps.map pairD)) _ _
  rw [v_srcT]
  refine lcT_t ps pairD (fun p => .bool (bit v p.1 == p.2)) rfl (Nat.le_of_lt (sl_lt hl)) trivial (fun p hp' Q' hQ => ?_) fun l nl => ?_
  · have e0 : ∀ (h : MH) (Q : KD), ixD (pairD p) (.int 0) h Q = Q (.int (p.1 : Nat)) h := fun _ _ => rfl
    have e1 : ∀ (h : MH) (Q : KD), ixD (pairD p) (.int 1) h Q = Q (.bool p.2) h := fun _ _ => rfl
    walk_at "ev"
    simp only [e0, e1, ixV (hp p hp'), v_eqB]
    exact hQ _ le.refl
  · have e : (ps.map fun p => D.bool (bit v p.1 == p.2)) = (ps.map fun p => (bit v p.1 == p.2)).map D.bool := by rw [List.map_map]; rfl
    rw [e]
    refine all_bools ?_
    have e2 : (ps.map fun p => (bit v p.1 == p.2)).all id = agrees v ps := by unfold agrees; rw [List.all_map]; rfl
    rw [e2]
    exact lh_le (le_up nl) q
def ruleD (r : List (Nat × Bool) × Nat) : D := .tup [prsD r.1, .int (r.2 : Nat)]
def sp__law_by_rules : P1 := fun ds h Q => ∃ (rl : Addr) (rs : List (List (Nat × Bool) × Nat)) (v : List Bool) (oth K : Nat), ds = [.ref rl, vD v, .int oth] ∧ h rl = some (.lst (rs.map ruleD)) ∧ (∀ r ∈ rs, r.1.length ≤ 1000000 ∧ (∀ p ∈ r.1, p.1 < v.length) ∧ r.2 < K) ∧ oth < K ∧ ∀ k : Nat, k < K → Q (.int k) h
theorem len__law_by_rules : ∀ ds h Q, sp__law_by_rules ds h Q → ds.length = 3 := fun ds h Q ⟨_, _, _, _, _, e, _⟩ => by rw [e]; rfl
theorem sat__law_by_rules : ∀ ds h Q, sp__law_by_rules ds h Q → rd__law_by_rules sp__law_agrees (endN Q) (startD 5 ds) h := by
  rintro ds h Q ⟨rl, rs, v, oth, K, rfl, er, hr, ho, q⟩
  show rd__law_by_rules sp__law_agrees (endN Q) [some (.ref rl), some (vD v), some (.int oth), none, none] h
  unfold rd__law_by_rules
  walk_at "ev"
  rw [er]
  walk_at "ev"
  refine ⟨fun i σ hh => hh = h ∧ ∃ x y, σ = [some (.ref rl), some (vD v), some (.int oth), x, y], Lw.of ⟨rfl, none, none, rfl⟩, fun i σ hh e => by rw [e.1]; exact er, ?_, ?_⟩
  · rintro i x σ hh hx ⟨rfl, u, w, rfl⟩
    rw [List.getElem?_map] at hx
    obtain ⟨r, hr1, rfl⟩ := Option.map_eq_some_iff.mp hx
    obtain ⟨h1, h2, h3⟩ := hr r (List.mem_of_getElem? hr1)
    show gTp 2 _ (.tup [prsD r.1, .int (r.2 : Nat)]) _ _ _
    walk_at "ev"
    unfold rd__law_by_rules_b1
    walk_at "ev"
    refine ⟨rfl, v, r.1, rfl, h1, h2, ?_⟩
    walk_at "ev"
    cases agrees v r.1
    · rw [if_neg (by decide)]
      exact Lw.of ⟨rfl, _, _, rfl⟩
    · rw [if_pos (by trivial)]
      exact lh_of (q _ h3)
  · rintro σ hh ⟨rfl, u, w, rfl⟩
    walk_at "ev"
    unfold rd__law_by_rules_1
    walk_at "ev"
    exact lh_of (q _ ho)
/-! values -/
structure ValsOk (vs : List D) : Prop where
  ne : 0 < vs.length
  len : vs.length ≤ 6
  pure : ∀ x ∈ vs, pure? 2 x = true ∧ okY x = true
  self : ∀ x ∈ vs, sameB x x = true ∧ eqF x x = true
  diff : vs.Pairwise fun x y => sameB x y = false ∧ sameB y x = false ∧ eqF x y = false ∧ eqF y x = false
theorem ValsOk.perm {vs us : List D} (v : ValsOk vs) (p : us.Perm vs) : ValsOk us :=
  ⟨by rw [p.length_eq]; exact v.ne, by rw [p.length_eq]; exact v.len, fun x hx => v.pure x (p.mem_iff.mp hx), fun x hx => v.self x (p.mem_iff.mp hx), p.symm.pairwise v.diff fun ⟨a, b, c, d⟩ => ⟨b, a, d, c⟩⟩
theorem ValsOk.take {vs : List D} (v : ValsOk vs) {k : Nat} (h : 0 < k) : ValsOk (vs.take k) :=
  ⟨by have := v.ne; rw [List.length_take]; omega, by have := v.len; rw [List.length_take]; omega, fun x hx => v.pure x (List.mem_of_mem_take hx), fun x hx => v.self x (List.mem_of_mem_take hx), v.diff.sublist (List.take_sublist _ _)⟩
def valB : List D := [.bool false, .bool true]
def valA (r : Int) : List D := [.tup [.str (Str.ofString "none"), .int 0, .tup [], .tup []], .tup [.str (Str.ofString "let"), .int r, .tup [.str (Str.ofString "p1")], .tup []], .tup [.str (Str.ofString "let"), .int (r + 1), .tup [.str (Str.ofString "p1")], .tup []],
  .tup [.str (Str.ofString "bar"), .int r, .tup [.str (Str.ofString "p1")], .tup []], .tup [.str (Str.ofString "let"), .int r, .tup [.str (Str.ofString "p1"), .str (Str.ofString "q2")], .tup []], .tup [.str (Str.ofString "let"), .int r, .tup [.str (Str.ofString "p1")], .tup [.str (Str.ofString "log")]]]
theorem valB_ok : ValsOk valB := ⟨by decide, by decide, by decide, by decide, by decide⟩
theorem sb_tt {xs ys : List D} : sameB (.tup xs) (.tup ys) = sameBs xs ys := by rw [sameB]
theorem sb_ss {a b : Str} : sameB (.str a) (.str b) = decide (a = b) := by rw [sameB]
theorem sb_ii {a b : Int} : sameB (.int a) (.int b) = decide (a = b) := by rw [sameB]
theorem sbs_c {x y : D} {xs ys : List D} : sameBs (x :: xs) (y :: ys) = (sameB x y && sameBs xs ys) := by rw [sameBs]
theorem sbs_n : sameBs [] [] = true := by rw [sameBs]
theorem sbs_cn {x : D} {xs : List D} : sameBs (x :: xs) [] = false := by simp [sameBs]
theorem sbs_nc {x : D} {xs : List D} : sameBs [] (x :: xs) = false := by simp [sameBs]
def eqFs (xs ys : List D) : Bool := PyData.eqvAll (pds xs) (pds ys)
theorem ef_tt {xs ys : List D} : eqF (.tup xs) (.tup ys) = eqFs xs ys := by unfold eqF eqFs; simp only [pd, PyData.eqv]
theorem ef_ss {a b : Str} : eqF (.str a) (.str b) = decide (a = b) := by unfold eqF; simp only [pd, eqv_str]
theorem ef_ii {a b : Int} : eqF (.int a) (.int b) = decide (a = b) := by unfold eqF; simp only [pd, eqv_int]
theorem efs_c {x y : D} {xs ys : List D} : eqFs (x :: xs) (y :: ys) = (eqF x y && eqFs xs ys) := by unfold eqFs eqF; simp only [pds, PyData.eqvAll]
theorem efs_n : eqFs [] [] = true := by unfold eqFs; simp only [pds, PyData.eqvAll]
theorem efs_cn {x : D} {xs : List D} : eqFs (x :: xs) [] = false := by unfold eqFs; simp only [pds, PyData.eqvAll]
theorem efs_nc {x : D} {xs : List D} : eqFs [] (x :: xs) = false := by unfold eqFs; simp only [pds, PyData.eqvAll]
theorem valA_ok (r : Int) : ValsOk (valA r) := by
  have n1 : Str.ofString "none" ≠ Str.ofString "let" := by decide
  have n2 : Str.ofString "none" ≠ Str.ofString "bar" := by decide
  have n3 : Str.ofString "let" ≠ Str.ofString "bar" := by decide
  have r1 : r ≠ r + 1 := by omega
  refine ⟨by show 0 < 6; decide, by show 6 ≤ 6; decide, ?_, ?_, ?_⟩
  · intro x hx
    simp only [valA, List.mem_cons, List.not_mem_nil, or_false] at hx
    rcases hx with rfl | rfl | rfl | rfl | rfl | rfl <;> simp [pure?, pures?, okY, okYs]
  · intro x hx
    simp only [valA, List.mem_cons, List.not_mem_nil, or_false] at hx
    rcases hx with rfl | rfl | rfl | rfl | rfl | rfl <;> simp only [sb_tt, sb_ss, sb_ii, sbs_c, sbs_n, sbs_cn, sbs_nc, ef_tt, ef_ss, ef_ii, efs_c, efs_n, efs_cn, efs_nc] <;> simp
  · have m1 : Str.ofString "p1" ≠ Str.ofString "q2" := by decide
    have r2 : ¬ r + 1 = r := by omega
    simp only [valA, List.pairwise_cons, List.mem_cons, List.not_mem_nil, or_false, forall_eq_or_imp, forall_eq]
    simp only [sb_tt, sb_ss, sb_ii, sbs_c, sbs_n, sbs_cn, sbs_nc, ef_tt, ef_ss, ef_ii, efs_c, efs_n, efs_cn, efs_nc]
    simp [n1, n2, n3, n1.symm, n2.symm, n3.symm, r1, r2]
def sp__law_values : P1 := fun ds h Q => ∃ a c cs, ds = [.ref a] ∧ Dr a c cs h ∧ ∀ l o vs, h l = none → ValsOk vs → DrO c o → Q (.ref l) (up (up h a o) l (.lst vs))
theorem len__law_values : ∀ ds h Q, sp__law_values ds h Q → ds.length = 1 := fun ds h Q ⟨_, _, _, e, _⟩ => by rw [e]; rfl
theorem sat__law_values : ∀ ds h Q, sp__law_values ds h Q → rd__law_values sp__law_draw sp__law_shuffled (endN Q) (startD 3 ds) h := by
  rintro ds h Q ⟨a, c, cs, rfl, d, q⟩
  obtain ⟨o0, e0, k0⟩ := d.st
  show rd__law_values sp__law_draw sp__law_shuffled (endN Q) [some (.ref a), none, none] h
  unfold rd__law_values
  walk_at "ev"
  refine ⟨a, c, cs, 2, rfl, by decide, by decide, d, fun r o1 _ _ k1 => ?_⟩
  walk_at "ev"
  split
  · walk_at "ev"
    refine ⟨by show 2 ≤ sizeLine; decide, fun p np => ?_⟩
    have ap : a ≠ p := nef up_same np
    have cp : c ≠ p := nef (d.up k1).ce np
    have np' : h p = none := by rw [up_ne ap.symm] at np; exact np
    refine ⟨a, c, cs, .ref p, valB, rfl, (d.up k1).put ap cp, (by show seqO (up _ p _ p) = _; rw [up_same]; rfl), (fun z => by cases z; exact ap rfl), by decide, fun l o2 ys nl py k2 => ?_⟩
    have pl : p ≠ l := nef up_same nl
    have al : a ≠ l := nef (show (up (up h a o1) p (.lst valB)) a = some o1 by rw [up_ne ap, up_same]) nl
    have nl' : h l = none := by rw [up_ne pl.symm, up_ne al.symm] at nl; exact nl
    rw [up3 ap]
    refine lh_le (le.up2 (le.up ?_)) (q l o2 ys nl' (valB_ok.perm py) k2)
    rw [up_ne ap.symm]; exact np'
  · unfold rd__law_values_1
    walk_at "ev"
    refine ⟨a, c, cs, 99, rfl, by decide, by decide, d.up k1, fun rk o2 _ _ k2 => ?_⟩
    rw [up_up]
    walk_at "ev"
    unfold rd__law_values_2
    walk_at "ev"
    refine ⟨by show 0 ≤ sizeLine; decide, by show 0 ≤ sizeLine; decide, by show 4 ≤ sizeLine; decide, ?_⟩
    refine ⟨by show 1 ≤ sizeLine; decide, by show 0 ≤ sizeLine; decide, by show 4 ≤ sizeLine; decide, ?_⟩
    refine ⟨by show 1 ≤ sizeLine; decide, by show 0 ≤ sizeLine; decide, by show 4 ≤ sizeLine; decide, ?_⟩
    refine ⟨by show 1 ≤ sizeLine; decide, by show 0 ≤ sizeLine; decide, by show 4 ≤ sizeLine; decide, ?_⟩
    refine ⟨by show 4 ≤ sizeLine; decide, fun p np => ?_⟩
    have ap : a ≠ p := nef up_same np
    have cp : c ≠ p := nef (d.up k2).ce np
    have np' : h p = none := by rw [up_ne ap.symm] at np; exact np
    unfold rd__law_values_3
    walk_at "ev"
    refine ⟨by show 2 ≤ sizeLine; decide, by show 0 ≤ sizeLine; decide, by show 4 ≤ sizeLine; decide, ?_⟩
    refine ⟨by show 1 ≤ sizeLine; decide, by show 1 ≤ sizeLine; decide, by show 4 ≤ sizeLine; decide, ?_⟩
    refine ⟨by show 2 ≤ sizeLine; decide, fun p2 np2 => ?_⟩
    have pp2 : p ≠ p2 := nef up_same np2
    have e1 : up (up (up h a o2) p (.lst ((valA rk).take 4))) p2 (.lst ((valA rk).drop 4)) p = some (.lst ((valA rk).take 4)) := by rw [up_ne pp2, up_same]
    have ap2 : a ≠ p2 := nef (show (up (up h a o2) p (.lst ((valA rk).take 4))) a = some o2 by rw [up_ne ap, up_same]) np2
    have np2' : h p2 = none := by rw [up_ne pp2.symm, up_ne ap2.symm] at np2; exact np2
    have cp2 : c ≠ p2 := nef d.ce np2'
    refine ⟨_, _, e1, up_same, by show 6 ≤ sizeLine; decide, fun p3 np3 => ?_⟩
    have p2p3 : p2 ≠ p3 := nef up_same np3
    have pp3 : p ≠ p3 := nef e1 np3
    have ap3 : a ≠ p3 := nef (show up (up (up h a o2) p (.lst ((valA rk).take 4))) p2 (.lst ((valA rk).drop 4)) a = some o2 by rw [up_ne ap2, up_ne ap, up_same]) np3
    have np3' : h p3 = none := by rw [up_ne p2p3.symm, up_ne pp3.symm, up_ne ap3.symm] at np3; exact np3
    have cp3 : c ≠ p3 := nef d.ce np3'
    unfold rd__law_values_4
    walk_at "ev"
    refine ⟨a, c, cs, .ref p3, valA rk, rfl, (((d.up k2).put ap cp).put ap2 cp2).put ap3 cp3, (by show seqO (up _ p3 _ p3) = _; rw [up_same]; rfl), (fun z => by cases z; exact ap3 rfl), by show 6 < 1000000; decide, fun l o3 ys nl py k3 => ?_⟩
    have p3l : p3 ≠ l := nef up_same nl
    have p2l : p2 ≠ l := nef (show up (up (up (up h a o2) p (.lst ((valA rk).take 4))) p2 (.lst ((valA rk).drop 4))) p3 (.lst (valA rk)) p2 = some _ by rw [up_ne p2p3, up_same]) nl
    have pl : p ≠ l := nef (show up (up (up (up h a o2) p (.lst ((valA rk).take 4))) p2 (.lst ((valA rk).drop 4))) p3 (.lst (valA rk)) p = some _ by rw [up_ne pp3, up_ne pp2, up_same]) nl
    have al : a ≠ l := nef (show up (up (up (up h a o2) p (.lst ((valA rk).take 4))) p2 (.lst ((valA rk).drop 4))) p3 (.lst (valA rk)) a = some _ by rw [up_ne ap3, up_ne ap2, up_ne ap, up_same]) nl
    have nl' : h l = none := by rw [up_ne p3l.symm, up_ne p2l.symm, up_ne pl.symm, up_ne al.symm] at nl; exact nl
    have cl : c ≠ l := nef d.ce nl'
    walk_at "ev"
    refine ⟨a, c, cs, 6, rfl, by decide, by decide, ((((((d.up k2).put ap cp).put ap2 cp2).put ap3 cp3).up k3).put al cl), fun r o4 r0 _ k4 => ?_⟩
    obtain ⟨j, rfl⟩ := Int.eq_ofNat_of_zero_le r0
    have lst4 : ∀ u : MH, (up (up u l (.lst ys)) a o4) l = some (.lst ys) := fun u => by rw [up_ne al.symm, up_same]
    walk_at "ev"
    rw [lst4]
    walk_at "ev"
    intro l2 nl2
    have ll2 : l ≠ l2 := nef (lst4 _) nl2
    have al2 : a ≠ l2 := nef up_same nl2
    have e4 : (1 : Int) + (j : Int) = ((1 + j : Nat) : Int) := by omega
    rw [e4, cut_k]
    have nl2' : h l2 = none := by
      have big : le h (up (up (up (up h p (.lst ((valA rk).take 4))) p2 (.lst ((valA rk).drop 4))) p3 (.lst (valA rk))) l (.lst ys)) := by
        refine (le.up np').trans ((le.up ?_).trans ((le.up ?_).trans (le.up ?_)))
        · rw [up_ne pp2.symm]; exact np2'
        · rw [up_ne p2p3.symm, up_ne pp3.symm]; exact np3'
        · rw [up_ne p3l.symm, up_ne p2l.symm, up_ne pl.symm]; exact nl'
      cases z : h l2 with
      | none => rfl
      | some u =>
        have := big l2 u z
        rw [up_ne al2.symm, up_ne ll2.symm, up_ne al2.symm] at nl2
        rw [up_ne ll2.symm] at this
        by_cases z3 : l2 = p3
        · rw [z3, up_same] at nl2; cases nl2
        · by_cases z2 : l2 = p2
          · rw [z2, up_ne p2p3, up_same] at nl2; cases nl2
          · by_cases z1 : l2 = p
            · rw [z1, up_ne pp3, up_ne pp2, up_same] at nl2; cases nl2
            · rw [up_ne z3, up_ne z2, up_ne z1, up_ne al2.symm] at nl2
              rw [nl2] at z; cases z
    refine lh_le (le.up2 ?_) (q l2 o4 _ nl2' (((valA_ok rk).perm py).take (k := 1 + j) (by omega)) k4)
    intro x u hu
    by_cases z : x = a
    · subst z; rw [up_same] at hu ⊢; exact hu
    · rw [up_ne z] at hu ⊢
      have f : ∀ w, h w = none → x ≠ w := fun w hw e => by rw [e, hw] at hu; cases hu
      rw [up_ne (f l nl'), up_ne z, up_ne (f p3 np3'), up_ne (f p2 np2'), up_ne (f p np'), up_ne z]
      exact hu
end DL
namespace DL
open PySem PySem.Spec PyProof.Rows L2 T50
local macro_rules | `(tactic| walk_at "ev") => `(tactic| try simp only [e_seq, e_next, e_brk, e_cnt, e_drop, e_ret, e_retN, e_ifS, e_asg, e_gN, e_gSb, e_gTp, e_gCn, e_gNl, e_var, e_varK, e_nth0, e_nthS, e_put0, e_putS, e_c, e_op, e_un, e_call, e_nil, e_cons, e_tup, e_lst, e_test, e_asB, e_tru, e_andT, e_orT, e_notT, e_andV, e_orV, e_notV, e_if, e_aug, e_augS, e_sl, e_part, e_partK, e_noPart, e_bm0, e_bm, e_join, e_yes, e_wipe0, e_wipeS, e_lc, e_for, v_add, v_addS, v_addT, v_iadd, v_sub, v_mul, v_fdiv, v_mod, v_pow, v_shl, v_shr, v_neg, v_lt, v_le, v_gt, v_ge, v_eqI, v_neI, v_eqS, v_neS, v_inS, v_ninS, v_inT, v_ninT, v_inR, v_ninR, v_inSeq, v_seqO, v_seqR, v_seqT, v_seqL, v_ixR, v_ixT, v_ixL, v_ixS, v_atK, v_atSK, v_get, v_getL, v_getK, v_set, v_setL, v_setK, v_on1, v_on2, v_lenR, v_lenT, v_lenL, v_lenS, v_seqK, v_tuple, v_list, v_abs, v_intI, v_intB, v_okL, v_isLst, v_app, v_lstK, v_slS, v_slT, v_join, v_is, v_isnot, v_max, v_min, v_iSeq, v_srcT, v_srcL, v_srcS, v_srcR, v_srcO, v_iRg1, v_rg1, v_truN, v_truB, v_truI, v_truS, v_truR, v_truT, v_truRol, v_truL, v_inRol, v_ninRol, v_inO, v_inOd, v_inDic, v_ixO, v_ixOd, v_ixSeq, v_ixDic, v_dgetK, v_ixStr, v_getO, v_getOd, v_setO, v_setOd, v_setDic, v_lenO, v_lenOd, e_dic0, e_disp, e_pairs0, e_pairsS, e_chain, v_bits, v_iRg3, v_rg3, v_iRg2, v_rg2, v_iEn, v_enT, v_enR, v_enO, v_iZp, v_zpT, v_zpR, v_zpO, v_repr, v_strI, v_strS, v_addR, v_and, v_slR, v_slL, v_ltS, v_srtT, v_srtR, v_srtO, v_srtD, v_revR, v_revT, v_isB, v_iZs, v_zsT, e_split, v_split, v_words, v_index, v_eqIS, v_neIS, v_eqB, v_neB])
/-! what draws and new things leave -/
section
variable {h H : MH} {a l c : Addr} {o o' x : MO} {cs : List Int}
end
def sp__law_row : P1 := fun ds h Q => ∃ (a c : Addr) (cs : List Int) (n K : Nat), ds = [.ref a, .int (n : Nat), .int (K : Nat)] ∧ n ≤ 8 ∧ 0 < K ∧ K < 1000 ∧ Dr a c cs h ∧ ∀ (l : Addr) (o : MO) (row : List Nat), h l = none → row.length = 2 ^ n → (∀ x ∈ row, x < K) → DrO c o → Q (.ref l) (up (up h a o) l (.lst (row.map fun (x : Nat) => D.int x)))
theorem len__law_row : ∀ ds h Q, sp__law_row ds h Q → ds.length = 3 := fun ds h Q ⟨_, _, _, _, _, e, _⟩ => by rw [e]; rfl
/-- a row of draws below K -/
theorem draws_row {h H : MH} {a c : Addr} {cs : List Int} {o0 : MO} (d : Dr a c cs h) (k0 : DrO c o0) (E : Ext h a o0 H) {m K : Nat} (hm : m ≤ 1000000) (hK : 0 < K) (hK2 : K < 1000) {xs : List D} (hx : xs.length = m) {g : G1} {te : E1} {vs : List Nat} {σ : Sl} {Q : KD}
    (he : ∀ (x : D) (H' : MH) (Q' : KD), sp__law_draw [.ref a, .int (K : Nat)] H' Q' → g x (wipeD σ vs) H' fun σ2 h2 => te σ2 h2 Q')
    (fin : ∀ (p : Addr) (row : List Nat) (o : MO) (H' : MH), Ext h a o H' → le (up H a o) H' → DrO c o → row.length = m → (∀ x ∈ row, x < K) → H' p = none → Q (.ref p) (up H' p (.lst (row.map fun (x : Nat) => D.int x)))) : lcT xs (fun _ => True) g dYes te vs σ Q H := by
  refine lcT_draws (E.dr d k0) (fun y => ∃ k : Nat, k < K ∧ y = .int k) (by rw [hx]; exact Nat.le_of_lt (sl_lt hm)) (fun i x o Q' _ k hQ => he x _ Q' ⟨a, c, cs, K, rfl, by omega, by omega, (E.dr d k0).up k, fun r o' r0 r1 k' => ?_⟩) fun acc o p hl hP k np => ?_
  · obtain ⟨j, rfl⟩ := Int.eq_ofNat_of_zero_le r0
    rw [up_up]
    exact hQ _ o' ⟨j, by omega, rfl⟩ k'
  · obtain ⟨row, rfl, h1, h2⟩ := nats_of hP
    exact fin p row o _ E.draw le.refl k (by rw [h2, hl, hx]) h1 np
theorem sat__law_row : ∀ ds h Q, sp__law_row ds h Q → rd__law_row sp__law_draw sp__law_valuations sp__law_pairs sp__law_by_rules (endN Q) (startD 11 ds) h := by
  rintro ds h Q ⟨a, c, cs, n, K, rfl, hn, hK, hK2, d, q⟩
  obtain ⟨o0, e0, k0⟩ := d.st
  have hp : 2 ^ n ≤ 256 := Nat.pow_le_pow_right (by decide : 0 < 2) hn
  show rd__law_row sp__law_draw sp__law_valuations sp__law_pairs sp__law_by_rules (endN Q) [some (.ref a), some (.int (n : Nat)), some (.int (K : Nat)), none, none, none, none, none, none, none, none] h
  unfold rd__law_row
  walk_at "ev"
  refine ⟨a, c, cs, 3, rfl, by decide, by decide, d, fun r o1 _ _ k1 => ?_⟩
  have E1 : Ext h a o1 (up h a o1) := (Ext.start e0).draw
  walk_at "ev"
  unfold rd__law_row_1
  walk_at "ev"
  split
  · walk_at "ev"
    refine ⟨⟨by omega, by omega, by decide⟩, ?_⟩
    have e : (1 : Int) * 2 ^ (n : Int).toNat = ((2 ^ n : Nat) : Int) := by rw [Int.one_mul, Int.toNat_natCast]; norm_cast
    rw [e]
    refine ⟨bnd62 (by omega), ?_⟩
    refine draws_row d k1 E1 (m := 2 ^ n) (K := K) (by omega) hK hK2 (rg_len _) (fun x H' Q' z => ?_) fun p row o H' E _ k hl hx np => ?_
    · walk_at "ev"
      exact z
    · exact lh_le E.fin (q p o row (E.fresh np) hl hx k)
  · unfold rd__law_row_2
    walk_at "ev"
    split
    · unfold rd__law_row_b1
      walk_at "ev"
      refine ⟨bnd62 (by omega), ?_⟩
      refine draws_row d k1 E1 (m := n) (K := 3) (by omega) (by decide) (by decide) (rg_len _) (fun x H' Q' z => ?_) fun wl ws o2 H2 E2 _ k2 hlw hw nwl => ?_
      · walk_at "ev"
        exact z
      have E2' := E2.new (x := .lst (ws.map fun (x : Nat) => D.int x)) nwl
      walk_at "ev"
      unfold rd__law_row_b1_1
      walk_at "ev"
      have e21 : (2 : Int) * (n : Int) + 1 = ((2 * n + 1 : Nat) : Int) := by omega
      rw [e21]
      refine ⟨mulOk_l (by decide), bnd62 (by omega), ?_⟩
      refine draws_row d k2 E2' (m := 2 * n + 1) (K := K) (by omega) hK hK2 (rg_len _) (fun x H' Q' z => ?_) fun ul us o3 H3 E3 L3 k3 hlu hu nul => ?_
      · walk_at "ev"
        exact z
      have wne : wl ≠ a := (E2.ne nwl).symm
      have ew : H3 wl = some (.lst (ws.map fun (x : Nat) => D.int x)) := L3 _ _ (by rw [up_ne wne, up_same])
      have E3' := E3.new (x := .lst (us.map fun (x : Nat) => D.int x)) nul
      have wu : wl ≠ ul := nef ew nul
      walk_at "ev"
      unfold rd__law_row_b1_2
      walk_at "ev"
      refine ⟨n, rfl, by omega, fun rl nrl => ?_⟩
      walk_at "ev"
      unfold rd__law_row_b1_3
      walk_at "ev"
      have ul_rl : ul ≠ rl := nef up_same nrl
      have wl_rl : wl ≠ rl := nef (show up H3 ul _ wl = _ by rw [up_ne wu]; exact ew) nrl
      rw [up_same]
      walk_at "ev"
      have E4 := E3'.new (x := .lst ((allV n).map vD)) nrl
      refine lcT_any (fun z => ∃ k : Nat, k < K ∧ z = .int k) (allV n) vD rfl (by rw [allV_len]; exact Nat.le_of_lt (sl_lt (by omega))) (by unfold stabO; exact up_same) (fun v hv Q' hQ => ?_) fun acc p hl hP np => ?_
      · have hv' := mem_len n v hv
        walk_at "ev"
        refine ⟨bnd62 (by omega), ?_⟩
        refine lcT_t (List.range n) (fun (i : Nat) => D.int i) (fun j => .int ((ws.getD j 0 : Nat) * (if bit v j = true then 1 else 0))) (by rw [Int.toNat_natCast]; exact rgD_0 _) (by rw [List.length_range]; exact Nat.le_of_lt (sl_lt (by omega))) trivial (fun j hj Q2 hQ2 => ?_) fun p np => ?_
        · rw [List.mem_range] at hj
          walk_at "ev"
          rw [up_ne wl_rl, up_ne wu, ew]
          walk_at "ev"
          have ej : (ws.map fun (x : Nat) => D.int x)[j]? = some (.int (ws.getD j 0 : Nat)) := by
            rw [List.getElem?_map, List.getD_eq_getElem?_getD, List.getElem?_eq_getElem (by omega)]; rfl
          rw [atI_of rfl ej]
          walk_at "ev"
          rw [ixV (by omega)]
          walk_at "ev"
          refine ⟨mulOk_r (by split <;> decide), hQ2 _ le.refl⟩
        · have es : (List.map (fun j => D.int ((ws.getD j 0 : Nat) * (if bit v j = true then 1 else 0))) (List.range n)) = ((List.range n).map fun j => ((ws.getD j 0 : Nat) * (if bit v j = true then 1 else 0) : Int)).map D.int := by rw [List.map_map]; rfl
          refine v_sum (by rw [up_same, es]) ?_
          have sb := sum_le ((List.range n).map fun j => ((ws.getD j 0 : Nat) * (if bit v j = true then 1 else 0) : Int)) 2 (by decide) fun w hw' => by
            obtain ⟨j, hj, rfl⟩ := List.mem_map.mp hw'
            rw [List.mem_range] at hj
            have : ws.getD j 0 < 3 := by
              rw [List.getD_eq_getElem?_getD, List.getElem?_eq_getElem (by omega)]
              exact hw _ (List.getElem_mem _)
            split <;> omega
          rw [List.length_map, List.length_range] at sb
          obtain ⟨s, hs⟩ := Int.eq_ofNat_of_zero_le sb.1
          rw [hs]
          have hs2 : s < us.length := by rw [hlu]; omega
          have eu : (us.map fun (x : Nat) => D.int x)[s]? = some (.int (us[s] : Nat)) := by rw [List.getElem?_map, List.getElem?_eq_getElem hs2]; rfl
          have eul : up (up H3 ul (.lst (us.map fun (x : Nat) => D.int x))) rl (.lst ((allV n).map vD)) ul = some (.lst (us.map fun (x : Nat) => D.int x)) := by rw [up_ne ul_rl, up_same]
          rw [up_ne (nef eul np), eul]
          walk_at "ev"
          rw [atI_of rfl eu]
          walk_at "ev"
          exact hQ _ _ ⟨us[s], hu _ (List.getElem_mem _), rfl⟩ (le_up np)
      · obtain ⟨row, rfl, h1, h2⟩ := nats_of hP
        exact lh_le E4.fin (q p o3 row (E4.fresh np) (by rw [h2, hl, allV_len]) h1 k3)
    · walk_at "ev"
      unfold rd__law_row_3
      walk_at "ev"
      refine ⟨a, c, cs, 4, rfl, by decide, by decide, E1.dr d k1, fun r2 o2 r20 r21 k2 => ?_⟩
      obtain ⟨j, rfl⟩ := Int.eq_ofNat_of_zero_le r20
      have e1 : (1 : Int) + (j : Int) = ((1 + j : Nat) : Int) := by omega
      walk_at "ev"
      rw [e1]
      refine ⟨bnd62 (by omega), ?_⟩
      have E2 : Ext h a o2 (up (up h a o1) a o2) := E1.draw
      refine lcT_draws (E2.dr d k2) (fun y => ∃ r : List (Nat × Bool) × Nat, r.1.length ≤ 1000000 ∧ (∀ p ∈ r.1, p.1 < n) ∧ r.2 < K ∧ y = ruleD r) (by rw [rg_len]; exact Nat.le_of_lt (sl_lt (by omega))) (fun i x o Q' _ k hQ => ?_) fun acc o p hl hP k np => ?_
      · walk_at "ev"
        refine ⟨a, c, cs, n, 3, rfl, by omega, by decide, by decide, (E2.dr d k2).up k, fun ps o4 hl4 hp4 k4 => ?_⟩
        rw [up_up]
        refine ⟨a, c, cs, K, rfl, by omega, by omega, (E2.dr d k2).up k4, fun r5 o5 r50 r51 k5 => ?_⟩
        obtain ⟨j5, rfl⟩ := Int.eq_ofNat_of_zero_le r50
        rw [up_up]
        exact ⟨by show 2 ≤ sizeLine; decide, hQ _ o5 ⟨(ps, j5), by show ps.length ≤ _; omega, hp4, by show j5 < K; omega, rfl⟩ k5⟩
      · have rules : ∀ {acc : List D}, (∀ y ∈ acc, ∃ r : List (Nat × Bool) × Nat, r.1.length ≤ 1000000 ∧ (∀ p ∈ r.1, p.1 < n) ∧ r.2 < K ∧ y = ruleD r) → ∃ rs : List (List (Nat × Bool) × Nat), acc = rs.map ruleD ∧ ∀ r ∈ rs, r.1.length ≤ 1000000 ∧ (∀ p ∈ r.1, p.1 < n) ∧ r.2 < K := by
          intro acc
          induction acc with
          | nil => exact fun _ => ⟨[], rfl, by simp⟩
          | cons y t ih =>
            intro hP
            obtain ⟨r, h1, h2, h3, rfl⟩ := hP y (by simp)
            obtain ⟨rs, rfl, h4⟩ := ih fun z hz => hP z (by simp [hz])
            refine ⟨r :: rs, rfl, fun x hx => ?_⟩
            rcases List.mem_cons.mp hx with rfl | hx
            · exact ⟨h1, h2, h3⟩
            · exact h4 x hx
        obtain ⟨rs, rfl, hrs⟩ := rules hP
        have E3 : Ext h a o (up (up (up h a o1) a o2) a o) := E2.draw
        have E3' := E3.new (x := .lst (rs.map ruleD)) np
        walk_at "ev"
        unfold rd__law_row_4
        walk_at "ev"
        refine ⟨a, c, cs, K, rfl, by omega, by omega, E3'.dr d k, fun r6 o6 r60 r61 k6 => ?_⟩
        obtain ⟨j6, rfl⟩ := Int.eq_ofNat_of_zero_le r60
        have E6 := E3'.draw (o' := o6)
        walk_at "ev"
        unfold rd__law_row_5
        walk_at "ev"
        refine ⟨n, rfl, by omega, fun vl nvl => ?_⟩
        have E7 := E6.new (x := .lst ((allV n).map vD)) nvl
        have er : up (up (up (up (up h a o1) a o2) a o) p (.lst (rs.map ruleD))) a o6 p = some (.lst (rs.map ruleD)) := by rw [up_ne (E3.ne np).symm, up_same]
        have pvl : p ≠ vl := nef er nvl
        walk_at "ev"
        rw [up_same]
        walk_at "ev"
        refine lcT_any (fun z => ∃ k : Nat, k < K ∧ z = .int k) (allV n) vD rfl (by rw [allV_len]; exact Nat.le_of_lt (sl_lt (by omega))) (by unfold stabO; exact up_same) (fun v hv Q' hQ => ?_) fun acc p2 hl2 hP2 np2 => ?_
        · have hv' := mem_len n v hv
          walk_at "ev"
          refine ⟨p, rs, v, j6, K, rfl, by rw [up_ne pvl]; exact er, fun r hr => ⟨(hrs r hr).1, fun q hq => by rw [hv']; exact (hrs r hr).2.1 q hq, (hrs r hr).2.2⟩, by omega, fun k7 hk7 => hQ _ _ ⟨k7, hk7, rfl⟩ le.refl⟩
        · obtain ⟨row, rfl, h1, h2⟩ := nats_of hP2
          exact lh_le E7.fin (q p2 o6 row (E7.fresh np2) (by rw [h2, hl2, allV_len]) h1 k6)
end DL
namespace DL
open PySem PySem.Spec PyProof.Rows L2
local macro_rules | `(tactic| walk_at "ev") => `(tactic| try simp only [e_seq, e_next, e_brk, e_cnt, e_drop, e_ret, e_retN, e_ifS, e_asg, e_gN, e_gSb, e_gTp, e_gCn, e_gNl, e_var, e_varK, e_nth0, e_nthS, e_put0, e_putS, e_c, e_op, e_un, e_call, e_nil, e_cons, e_tup, e_lst, e_test, e_asB, e_tru, e_andT, e_orT, e_notT, e_andV, e_orV, e_notV, e_if, e_aug, e_augS, e_sl, e_part, e_partK, e_noPart, e_bm0, e_bm, e_join, e_yes, e_wipe0, e_wipeS, e_lc, e_for, v_add, v_addS, v_addT, v_iadd, v_sub, v_mul, v_fdiv, v_mod, v_pow, v_shl, v_shr, v_neg, v_lt, v_le, v_gt, v_ge, v_eqI, v_neI, v_eqS, v_neS, v_inS, v_ninS, v_inT, v_ninT, v_inR, v_ninR, v_inSeq, v_seqO, v_seqR, v_seqT, v_seqL, v_ixR, v_ixT, v_ixL, v_ixS, v_atK, v_atSK, v_get, v_getL, v_getK, v_set, v_setL, v_setK, v_on1, v_on2, v_lenR, v_lenT, v_lenL, v_lenS, v_seqK, v_tuple, v_list, v_abs, v_intI, v_intB, v_okL, v_isLst, v_app, v_lstK, v_slS, v_slT, v_join, v_is, v_isnot, v_max, v_min, v_iSeq, v_srcT, v_srcL, v_srcS, v_srcR, v_srcO, v_iRg1, v_rg1, v_truN, v_truB, v_truI, v_truS, v_truR, v_truT, v_truRol, v_truL, v_inRol, v_ninRol, v_inO, v_inOd, v_inDic, v_ixO, v_ixOd, v_ixSeq, v_ixDic, v_dgetK, v_ixStr, v_getO, v_getOd, v_setO, v_setOd, v_setDic, v_lenO, v_lenOd, e_dic0, e_disp, e_pairs0, e_pairsS, e_chain, v_bits, v_iRg3, v_rg3, v_iRg2, v_rg2, v_iEn, v_enT, v_enR, v_enO, v_iZp, v_zpT, v_zpR, v_zpO, v_repr, v_strI, v_strS, v_addR, v_and, v_slR, v_slL, v_ltS, v_srtT, v_srtR, v_srtO, v_srtD, v_revR, v_revT, v_isB, v_iZs, v_zsT, e_split, v_split, v_words, v_index, v_eqIS, v_neIS, v_eqB, v_neB])
local macro_rules | `(tactic| walk_at "e0") => `(tactic| try simp only [e_seq, e_brk, e_cnt, e_drop, e_ret, e_retN, e_ifS, e_asg, e_gN, e_gSb, e_gTp, e_gCn, e_gNl, e_var, e_varK, e_nth0, e_nthS, e_put0, e_putS, e_c, e_op, e_un, e_call, e_nil, e_cons, e_tup, e_lst, e_test, e_asB, e_tru, e_andT, e_orT, e_notT, e_andV, e_orV, e_notV, e_if, e_aug, e_augS, e_sl, e_part, e_partK, e_noPart, e_bm0, e_bm, e_join, e_yes, e_wipe0, e_wipeS, e_lc, e_for, v_add, v_addS, v_addT, v_iadd, v_sub, v_mul, v_fdiv, v_mod, v_pow, v_shl, v_shr, v_neg, v_lt, v_le, v_gt, v_ge, v_eqI, v_neI, v_eqS, v_neS, v_inS, v_ninS, v_inT, v_ninT, v_inR, v_ninR, v_inSeq, v_seqO, v_seqR, v_seqT, v_seqL, v_ixR, v_ixT, v_ixL, v_ixS, v_atK, v_atSK, v_get, v_getL, v_getK, v_set, v_setL, v_setK, v_on1, v_on2, v_lenR, v_lenT, v_lenL, v_lenS, v_seqK, v_tuple, v_list, v_abs, v_intI, v_intB, v_okL, v_isLst, v_app, v_lstK, v_slS, v_slT, v_join, v_is, v_isnot, v_max, v_min, v_iSeq, v_srcT, v_srcL, v_srcS, v_srcR, v_srcO, v_iRg1, v_rg1, v_truN, v_truB, v_truI, v_truS, v_truR, v_truT, v_truRol, v_truL, v_inRol, v_ninRol, v_inO, v_inOd, v_inDic, v_ixO, v_ixOd, v_ixSeq, v_ixDic, v_dgetK, v_ixStr, v_getO, v_getOd, v_setO, v_setOd, v_setDic, v_lenO, v_lenOd, e_dic0, e_disp, e_pairs0, e_pairsS, e_chain, v_bits, v_iRg3, v_rg3, v_iRg2, v_rg2, v_iEn, v_enT, v_enR, v_enO, v_iZp, v_zpT, v_zpR, v_zpO, v_repr, v_strI, v_strS, v_addR, v_and, v_slR, v_slL, v_ltS, v_srtT, v_srtR, v_srtO, v_srtD, v_revR, v_revT, v_isB, v_iZs, v_zsT, v_eqIS, v_neIS, v_eqB, v_neB])
open T50
def natsD (r : List Nat) : List D := r.map fun (x : Nat) => D.int x
def tabD (vs : List D) (ns : List Nod) : D := .tup (ns.map (encN vs))
def sp__law_made : P1 := fun ds h Q => ∃ (a c : Addr) (cs : List Int), ds = [.ref a] ∧ Dr a c cs h ∧ ∀ (vl rl : Addr) (o : MO) (vs : List D) (row : List Nat) (n : Nat) (ns : List Nod), h vl = none → h rl = none → vl ≠ rl → n ≤ 7 → ValsOk vs → row.length = 2 ^ n → (∀ x ∈ row, x < vs.length) → TabOk n vs row ns → DrO c o →
  Q (.tup [tabD vs ns, .ref rl, .int (n : Nat), .ref vl]) (up (up (up h a o) vl (.lst vs)) rl (.lst (natsD row)))
theorem len__law_made : ∀ ds h Q, sp__law_made ds h Q → ds.length = 1 := fun ds h Q ⟨_, _, _, e, _⟩ => by rw [e]; rfl
theorem sat__law_made : ∀ ds h Q, sp__law_made ds h Q → rd__law_made sp__law_draw sp__law_rare sp__law_values sp__law_row sp__law_nodes (endN Q) (startD 4 ds) h := by
  rintro ds h Q ⟨a, c, cs, rfl, d, q⟩
  obtain ⟨o0, e0, k0⟩ := d.st
  show rd__law_made sp__law_draw sp__law_rare sp__law_values sp__law_row sp__law_nodes (endN Q) [some (.ref a), none, none, none] h
  unfold rd__law_made
  walk_at "ev"
  refine ⟨a, c, cs, 6, rfl, by decide, by decide, d, fun r o1 r0 r1 k1 => ?_⟩
  obtain ⟨j, rfl⟩ := Int.eq_ofNat_of_zero_le r0
  have E1 : Ext h a o1 (up h a o1) := (Ext.start e0).draw
  walk_at "ev"
  unfold rd__law_made_1
  walk_at "ev"
  refine ⟨a, c, cs, 9, rfl, by decide, by decide, E1.dr d k1, fun b o2 k2 => ?_⟩
  rw [up_up]
  have E2 : Ext h a o2 (up h a o2) := (Ext.start e0).draw
  have main : ∀ n : Nat, n ≤ 7 → rd__law_made_2 sp__law_draw sp__law_rare sp__law_values sp__law_row sp__law_nodes (endN Q) [some (.ref a), some (.int (n : Nat)), none, none] (up h a o2) := fun n hn => by
    unfold rd__law_made_2
    walk_at "ev"
    refine ⟨a, c, cs, rfl, E2.dr d k2, fun vl o3 vs nvl v k3 => ?_⟩
    have nvl' := E2.fresh nvl
    rw [up_up]
    have E3 : Ext h a o3 (up (up h a o3) vl (.lst vs)) := (Ext.start e0).draw.new (by rw [up_ne (E2.ne nvl).symm]; exact nvl')
    have avl : a ≠ vl := E2.ne nvl
    walk_at "ev"
    unfold rd__law_made_3
    walk_at "ev"
    rw [up_same]
    walk_at "ev"
    refine ⟨a, c, cs, n, vs.length, rfl, by omega, v.ne, by have := v.len; omega, E3.dr d k3, fun rl o4 row nrl hl hx k4 => ?_⟩
    have nrl' := E3.fresh nrl
    have arl := E3.ne nrl
    have vr : vl ≠ rl := nef up_same nrl
    rw [up3 avl]
    walk_at "ev"
    unfold rd__law_made_4
    walk_at "ev"
    refine ⟨rl, row, n, vl, vs, rfl, by omega, hl, hx, up_same, by rw [up_ne vr, up_same], fun ns ht => ⟨by show 4 ≤ sizeLine; decide, ?_⟩⟩
    exact lh_of (q vl rl o4 vs row n ns nvl' nrl' vr hn v hl hx ht k4)
  walk_at "ev"
  split
  · walk_at "ev"
    have e2 : (j : Int) + 2 = ((j + 2 : Nat) : Int) := by omega
    rw [e2]
    exact main _ (by omega)
  · exact main _ (by omega)
/-! tables, read -/
theorem enc_at {vs : List D} {ns : List Nod} {p : Nat} {x : Nod} (e : ns[p]? = some x) {h : MH} {Q : KD} : ixD (tabD vs ns) (.int (p : Nat)) h Q = Q (encN vs x) h := by
  show atK (atI (ns.map (encN vs)) (p : Nat)) h Q = _
  rw [atI_of rfl (show (ns.map (encN vs))[p]? = some (encN vs x) by rw [List.getElem?_map, e]; rfl)]; rfl
theorem len_tab {vs : List D} {ns : List Nod} {h : MH} {Q : KD} : lenD (tabD vs ns) h Q = Q (.int ns.length) h := by
  show Q (.int ((ns.map (encN vs)).length : Nat)) h = _
  rw [List.length_map]
section
variable {vs : List D} {h : MH} {Q : KD} {k a l hh : Nat}
theorem nd_0l : ixD (encN vs (.leaf k)) (.int 0) h Q = Q (.str (Str.ofString "leaf")) h := rfl
theorem nd_1l : ixD (encN vs (.leaf k)) (.int 1) h Q = Q (vs.getD k .none) h := rfl
theorem nd_0n : ixD (encN vs (.nod a l hh)) (.int 0) h Q = Q (.int (a : Nat)) h := rfl
theorem nd_1n : ixD (encN vs (.nod a l hh)) (.int 1) h Q = Q (.int (l : Nat)) h := rfl
theorem nd_2n : ixD (encN vs (.nod a l hh)) (.int 2) h Q = Q (.int (hh : Nat)) h := rfl
end
theorem leaf_leaf : decide (Str.ofString "leaf" = Str.ofString "leaf") = true := by decide
theorem walk_lt {ns : List Nod} {n : Nat} {v : List Bool} (O : Ord n ns) : ∀ t p, p < ns.length → walkN ns v t p < ns.length
  | 0, p, h => h
  | t + 1, p, h => walk_lt O t _ (Nat.lt_of_le_of_lt (step_le O h) h)
def valAt (vs : List D) (ns : List Nod) (p : Nat) : D := match ns[p]? with
  | some (.leaf k) => vs.getD k .none
  | _ => .none
theorem val_leaf {vs : List D} {ns : List Nod} {p k : Nat} (e : ns[p]? = some (.leaf k)) : valAt vs ns p = vs.getD k .none := by unfold valAt; rw [e]
theorem is_leaf_ix {vs : List D} {ns : List Nod} {p : Nat} (hp : p < ns.length) {h : MH} {Q : KD} : ixD (tabD vs ns) (.int (p : Nat)) h (fun x h1 => ixD x (.int 0) h1 fun y h2 => eqD y (.str (Str.ofString "leaf")) h2 Q) = Q (.bool (isLf ns p)) h := by
  rw [enc_at (List.getElem?_eq_getElem hp)]
  cases e : ns[p] with
  | leaf k =>
    have e' : ns[p]? = some (.leaf k) := by rw [List.getElem?_eq_getElem hp, e]
    rw [nd_0l, v_eqS, leaf_leaf, is_leaf e']
  | nod a l hh =>
    have e' : ns[p]? = some (.nod a l hh) := by rw [List.getElem?_eq_getElem hp, e]
    rw [nd_0n, v_eqIS, not_leaf e']
theorem val_ix {vs : List D} {ns : List Nod} {p : Nat} (hp : isLf ns p = true) {h : MH} {Q : KD} : ixD (tabD vs ns) (.int (p : Nat)) h (fun x h1 => ixD x (.int 1) h1 Q) = Q (valAt vs ns p) h := by
  obtain ⟨k, e⟩ := leaf_of hp
  rw [enc_at e, nd_1l, val_leaf e]
theorem nats_get {ws : List Nat} {p w : Nat} (e : ws[p]? = some w) : (natsD ws)[p]? = some (.int (w : Nat)) := by unfold natsD; rw [List.getElem?_map, e]; rfl
theorem nats_len {ws : List Nat} : (natsD ws).length = ws.length := by unfold natsD; rw [List.length_map]
theorem nats_set {ws : List Nat} {p w : Nat} : (natsD ws).set p (.int (w : Nat)) = natsD (ws.set p w) := by unfold natsD; rw [← List.map_set]
/-- the atoms met -/
def lk (ns : List Nod) (v : List Bool) : Nat → Nat → List Nat
  | 0, _ => []
  | t + 1, p => match ns[p]? with
    | some (.nod a _ _) => a :: lk ns v t (stepN ns v p)
    | _ => []
theorem lk_leaf {ns : List Nod} {v : List Bool} {p : Nat} (e : isLf ns p = true) : ∀ t, lk ns v t p = []
  | 0 => rfl
  | t + 1 => by obtain ⟨k, e⟩ := leaf_of e; rw [lk, e]
theorem lk_nod {ns : List Nod} {v : List Bool} {p a l h : Nat} (e : ns[p]? = some (.nod a l h)) (t : Nat) : lk ns v (t + 1) p = a :: lk ns v t (stepN ns v p) := by rw [lk, e]
theorem lk_more {ns : List Nod} {v : List Bool} {n : Nat} (O : Ord n ns) : ∀ t p, p < ns.length → p ≤ t → lk ns v (t + 1) p = lk ns v t p
  | t, p, hp, ht => by
    cases e : isLf ns p with
    | true => rw [lk_leaf e, lk_leaf e]
    | false =>
      have h1 := step_lt (v := v) O hp e
      obtain ⟨a, l, h, q⟩ := nod_of hp e
      cases t with
      | zero => omega
      | succ t =>
        rw [lk_nod q, lk_nod q, lk_more O t (stepN ns v p) (by omega) (by omega)]
def looks (ns : List Nod) (v : List Bool) (p : Nat) : List Nat := lk ns v ns.length p
theorem looks_nod {ns : List Nod} {v : List Bool} {n : Nat} (O : Ord n ns) {p a l h : Nat} (e : ns[p]? = some (.nod a l h)) : looks ns v p = a :: looks ns v (stepN ns v p) := by
  have hp := (List.getElem?_eq_some_iff.mp e).1
  have h1 := step_lt (v := v) O hp (not_leaf e)
  unfold looks
  rw [← lk_more O ns.length p hp (by omega), lk, e]
theorem looks_leaf {ns : List Nod} {v : List Bool} {p : Nat} (e : isLf ns p = true) : looks ns v p = [] := lk_leaf e _
def sp_decide : P1 := fun ds h Q => ∃ (vs : List D) (n : Nat) (ns : List Nod) (v : List Bool), ds = [tabD vs ns, vD v] ∧ Ord n ns ∧ v.length = n ∧ n ≤ 100000 ∧ Q (.tup [valAt vs ns (fin ns v (ns.length - 1)), .tup (natsD (looks ns v (ns.length - 1)))]) h
theorem len_decide : ∀ ds h Q, sp_decide ds h Q → ds.length = 2 := fun ds h Q ⟨_, _, _, _, e, _⟩ => by rw [e]; rfl
theorem looks_len {ns : List Nod} {v : List Bool} {n : Nat} (O : Ord n ns) : ∀ t p, p < t → p < ns.length → (looks ns v p).length ≤ n - atomN ns n p
  | 0, p, h, _ => by omega
  | t + 1, p, ht, hp => by
    cases e : isLf ns p with
    | true => rw [looks_leaf e]; exact Nat.zero_le _
    | false =>
      obtain ⟨a, l, h, q⟩ := nod_of hp e
      obtain ⟨h1, h2, h3, h4, h5⟩ := O.nod _ _ _ _ q
      have hs := step_lt (v := v) O hp e
      have ih := looks_len (v := v) O t (stepN ns v p) (by omega) (by omega)
      rw [looks_nod O q, List.length_cons, atom_nod q]
      have : a < atomN ns n (stepN ns v p) := by rw [step_nod q]; split <;> assumption
      omega
theorem neLeaf {vs : List D} {ns : List Nod} {p : Nat} (hp : p < ns.length) {h : MH} {Q : KD} : ixD (tabD vs ns) (.int (p : Nat)) h (fun x h1 => ixD x (.int 0) h1 fun y h2 => neD y (.str (Str.ofString "leaf")) h2 Q) = Q (.bool (!isLf ns p)) h := by
  rw [enc_at (List.getElem?_eq_getElem hp)]
  cases e : ns[p] with
  | leaf k =>
    have e' : ns[p]? = some (.leaf k) := by rw [List.getElem?_eq_getElem hp, e]
    rw [nd_0l, v_neS, leaf_leaf, is_leaf e']
  | nod a l hh =>
    have e' : ns[p]? = some (.nod a l hh) := by rw [List.getElem?_eq_getElem hp, e]
    rw [nd_0n, v_neIS, not_leaf e']; rfl
theorem sat_decide : ∀ ds h Q, sp_decide ds h Q → rd_decide (endN Q) (startD 7 ds) h := by
  rintro ds h Q ⟨vs, n, ns, v, rfl, O, hv, hn, q⟩
  have hne := O.ne
  show rd_decide (endN Q) [some (tabD vs ns), some (vD v), none, none, none, none, none] h
  unfold rd_decide
  walk_at "ev"
  simp only [len_tab]
  walk_at "ev"
  have e1 : (ns.length : Int) - 1 = ((ns.length - 1 : Nat) : Int) := by omega
  rw [e1]
  unfold rd_decide_1
  walk_at "ev"
  refine ⟨by decide, fun lo nlo => ?_⟩
  unfold rd_decide_2
  walk_at "ev"
  unfold dWhile
  refine ⟨fun m σ hh => m < ns.length ∧ fin ns v m = fin ns v (ns.length - 1) ∧ ∃ L x y z, hh = up h lo (.lst (natsD L)) ∧ L ++ looks ns v m = looks ns v (ns.length - 1) ∧ σ = [some (tabD vs ns), some (vD v), some (.int (m : Nat)), some (.ref lo), x, y, z], ⟨ns.length - 1, Lw.of ⟨by omega, rfl, [], _, _, _, rfl, rfl, rfl⟩⟩, ?_⟩
  rintro m σ hh ⟨hm, hf, L, x, y, z, rfl, hL, rfl⟩
  walk_at "ev"
  rw [neLeaf hm]
  walk_at "ev"
  cases e : isLf ns m with
  | true =>
    rw [if_neg (by decide)]
    unfold rd_decide_3
    walk_at "ev"
    rw [val_ix e]
    rw [up_same]
    walk_at "ev"
    refine ⟨by show 2 ≤ sizeLine; decide, lh_le (le.up nlo) ?_⟩
    rw [looks_leaf e, List.append_nil] at hL
    rw [fin_leaf e] at hf
    rw [hL, hf]; exact q
  | false =>
    rw [if_pos (by decide)]
    obtain ⟨a, l, h', q2⟩ := nod_of hm e
    have ha := (O.nod _ _ _ _ q2).2.2.1
    unfold rd_decide_b1
    walk_at "ev"
    rw [enc_at q2]
    show gTp 3 _ (.tup [.int (a : Nat), .int (l : Nat), .int (h' : Nat)]) _ _ _
    walk_at "ev"
    refine ⟨rfl, ?_⟩
    unfold rd_decide_b1_1
    walk_at "ev"
    rw [up_same]
    walk_at "ev"
    have hs := step_lt (v := v) O hm e
    have fin' : ∀ {w : Nat}, w = stepN ns v m → ∃ m', m' < m ∧ Lw (fun σ hh => m' < ns.length ∧ fin ns v m' = fin ns v (ns.length - 1) ∧ ∃ L x y z, hh = up h lo (.lst (natsD L)) ∧ L ++ looks ns v m' = looks ns v (ns.length - 1) ∧ σ = [some (tabD vs ns), some (vD v), some (.int (m' : Nat)), some (.ref lo), x, y, z]) [some (tabD vs ns), some (vD v), some (.int (w : Nat)), some (.ref lo), some (.int (a : Nat)), some (.int (l : Nat)), some (.int (h' : Nat))] (up h lo (.lst (natsD L ++ [.int (a : Nat)]))) := fun {w} ew => by
      subst ew
      refine ⟨_, hs, Lw.of ⟨by omega, by rw [fin_step O hm]; exact hf, L ++ [a], _, _, _, ?_, ?_, rfl⟩⟩
      · unfold natsD; rw [List.map_append]; rfl
      · rw [looks_nod O q2] at hL
        rw [← hL, List.append_assoc]; rfl
    have hlen := looks_len (v := v) O ns.length (ns.length - 1) (by omega) (by omega)
    have hLl : L.length ≤ n := by rw [← hL, List.length_append] at hlen; omega
    refine ⟨trivial, by rw [nats_len]; exact sl_lt (by omega), ?_⟩
    unfold rd_decide_b1_2
    rw [up_up]
    walk_at "ev"
    simp only [ixV (show a < v.length by omega)]
    walk_at "ev"
    split
    · rename_i hb
      exact fin' (by rw [step_nod q2, if_pos hb])
    · rename_i hb
      exact fin' (by rw [step_nod q2, if_neg hb])
/-- the leaves' values differ -/
structure LfOk (vs : List D) (ns : List Nod) : Prop where
  lt : ∀ (p k : Nat), ns[p]? = some (.leaf k) → k < vs.length
  inj : ∀ (p q k : Nat), ns[p]? = some (.leaf k) → ns[q]? = some (.leaf k) → p = q
theorem TabOk.lf {n : Nat} {vs : List D} {row : List Nat} {ns : List Nod} (t : TabOk n vs row ns) : LfOk vs ns := by
  obtain ⟨rs, T, _⟩ := t
  exact ⟨fun p k e => T.leaf_lt e, fun p q k a b => T.leaf_inj a b⟩
theorem TabOk.ord {n : Nat} {vs : List D} {row : List Nat} {ns : List Nod} (t : TabOk n vs row ns) : Ord n ns := by
  obtain ⟨rs, T, _, h, _⟩ := t
  exact T.ord h
theorem vals_ne {vs : List D} (V : ValsOk vs) {i j : Nat} (hi : i < vs.length) (hj : j < vs.length) (ne : i ≠ j) : sameB (vs.getD i .none) (vs.getD j .none) = false ∧ eqF (vs.getD i .none) (vs.getD j .none) = false := by
  have d := List.pairwise_iff_getElem.mp V.diff
  rw [List.getD_eq_getElem?_getD, List.getD_eq_getElem?_getD, List.getElem?_eq_getElem hi, List.getElem?_eq_getElem hj]
  rcases Nat.lt_or_gt_of_ne ne with h | h
  · exact ⟨(d i j hi hj h).1, (d i j hi hj h).2.2.1⟩
  · exact ⟨(d j i hj hi h).2.1, (d j i hj hi h).2.2.2⟩
theorem val_mem {vs : List D} {i : Nat} (hi : i < vs.length) : vs.getD i .none ∈ vs := by
  rw [List.getD_eq_getElem?_getD, List.getElem?_eq_getElem hi]; exact List.getElem_mem _
theorem same_leaf {vs : List D} {ns : List Nod} (V : ValsOk vs) (F : LfOk vs ns) {p q : Nat} (hp : isLf ns p = true) (hq : isLf ns q = true) : sameB (valAt vs ns p) (valAt vs ns q) = (p == q) := by
  obtain ⟨i, ei⟩ := leaf_of hp
  obtain ⟨j, ej⟩ := leaf_of hq
  rw [val_leaf ei, val_leaf ej]
  by_cases e : p = q
  · subst e
    rw [ei] at ej; cases ej
    rw [(V.self _ (val_mem (F.lt _ _ ei))).1, beq_self_eq_true]
  · rw [beq_eq_false_iff_ne.mpr e]
    exact (vals_ne V (F.lt _ _ ei) (F.lt _ _ ej) (fun z => e (F.inj p q i ei (by rw [z]; exact ej)))).1
theorem val_pure {vs : List D} {ns : List Nod} (V : ValsOk vs) (F : LfOk vs ns) {p : Nat} (hp : isLf ns p = true) : pure? 2 (valAt vs ns p) = true ∧ okY (valAt vs ns p) = true := by
  obtain ⟨i, ei⟩ := leaf_of hp
  rw [val_leaf ei]
  exact V.pure _ (val_mem (F.lt _ _ ei))
end DL
namespace DL
open PySem PySem.Spec PyProof.Rows L2
local macro_rules | `(tactic| walk_at "ev") => `(tactic| try simp only [e_seq, e_next, e_brk, e_cnt, e_drop, e_ret, e_retN, e_ifS, e_asg, e_gN, e_gSb, e_gTp, e_gCn, e_gNl, e_var, e_varK, e_nth0, e_nthS, e_put0, e_putS, e_c, e_op, e_un, e_call, e_nil, e_cons, e_tup, e_lst, e_test, e_asB, e_tru, e_andT, e_orT, e_notT, e_andV, e_orV, e_notV, e_if, e_aug, e_augS, e_sl, e_part, e_partK, e_noPart, e_bm0, e_bm, e_join, e_yes, e_wipe0, e_wipeS, e_lc, e_for, v_add, v_addS, v_addT, v_iadd, v_sub, v_mul, v_fdiv, v_mod, v_pow, v_shl, v_shr, v_neg, v_lt, v_le, v_gt, v_ge, v_eqI, v_neI, v_eqS, v_neS, v_inS, v_ninS, v_inT, v_ninT, v_inR, v_ninR, v_inSeq, v_seqO, v_seqR, v_seqT, v_seqL, v_ixR, v_ixT, v_ixL, v_ixS, v_atK, v_atSK, v_get, v_getL, v_getK, v_set, v_setL, v_setK, v_on1, v_on2, v_lenR, v_lenT, v_lenL, v_lenS, v_seqK, v_tuple, v_list, v_abs, v_intI, v_intB, v_okL, v_isLst, v_app, v_lstK, v_slS, v_slT, v_join, v_is, v_isnot, v_max, v_min, v_iSeq, v_srcT, v_srcL, v_srcS, v_srcR, v_srcO, v_iRg1, v_rg1, v_truN, v_truB, v_truI, v_truS, v_truR, v_truT, v_truRol, v_truL, v_inRol, v_ninRol, v_inO, v_inOd, v_inDic, v_ixO, v_ixOd, v_ixSeq, v_ixDic, v_dgetK, v_ixStr, v_getO, v_getOd, v_setO, v_setOd, v_setDic, v_lenO, v_lenOd, e_dic0, e_disp, e_pairs0, e_pairsS, e_chain, v_bits, v_iRg3, v_rg3, v_iRg2, v_rg2, v_iEn, v_enT, v_enR, v_enO, v_iZp, v_zpT, v_zpR, v_zpO, v_repr, v_strI, v_strS, v_addR, v_and, v_slR, v_slL, v_ltS, v_srtT, v_srtR, v_srtO, v_srtD, v_revR, v_revT, v_isB, v_iZs, v_zsT, e_split, v_split, v_words, v_index, v_eqIS, v_neIS, v_eqB, v_neB])
local macro_rules | `(tactic| walk_at "e0") => `(tactic| try simp only [e_seq, e_brk, e_cnt, e_drop, e_ret, e_retN, e_ifS, e_asg, e_gN, e_gSb, e_gTp, e_gCn, e_gNl, e_var, e_varK, e_nth0, e_nthS, e_put0, e_putS, e_c, e_op, e_un, e_call, e_nil, e_cons, e_tup, e_lst, e_test, e_asB, e_tru, e_andT, e_orT, e_notT, e_andV, e_orV, e_notV, e_if, e_aug, e_augS, e_sl, e_part, e_partK, e_noPart, e_bm0, e_bm, e_join, e_yes, e_wipe0, e_wipeS, e_lc, e_for, v_add, v_addS, v_addT, v_iadd, v_sub, v_mul, v_fdiv, v_mod, v_pow, v_shl, v_shr, v_neg, v_lt, v_le, v_gt, v_ge, v_eqI, v_neI, v_eqS, v_neS, v_inS, v_ninS, v_inT, v_ninT, v_inR, v_ninR, v_inSeq, v_seqO, v_seqR, v_seqT, v_seqL, v_ixR, v_ixT, v_ixL, v_ixS, v_atK, v_atSK, v_get, v_getL, v_getK, v_set, v_setL, v_setK, v_on1, v_on2, v_lenR, v_lenT, v_lenL, v_lenS, v_seqK, v_tuple, v_list, v_abs, v_intI, v_intB, v_okL, v_isLst, v_app, v_lstK, v_slS, v_slT, v_join, v_is, v_isnot, v_max, v_min, v_iSeq, v_srcT, v_srcL, v_srcS, v_srcR, v_srcO, v_iRg1, v_rg1, v_truN, v_truB, v_truI, v_truS, v_truR, v_truT, v_truRol, v_truL, v_inRol, v_ninRol, v_inO, v_inOd, v_inDic, v_ixO, v_ixOd, v_ixSeq, v_ixDic, v_dgetK, v_ixStr, v_getO, v_getOd, v_setO, v_setOd, v_setDic, v_lenO, v_lenOd, e_dic0, e_disp, e_pairs0, e_pairsS, e_chain, v_bits, v_iRg3, v_rg3, v_iRg2, v_rg2, v_iEn, v_enT, v_enR, v_enO, v_iZp, v_zpT, v_zpR, v_zpO, v_repr, v_strI, v_strS, v_addR, v_and, v_slR, v_slL, v_ltS, v_srtT, v_srtR, v_srtO, v_srtD, v_revR, v_revT, v_isB, v_iZs, v_zsT, v_eqIS, v_neIS, v_eqB, v_neB])
open T50
/-! a decider at an address: its table's own list, the node it stands at -/
def rowsD (vs : List D) (ns : List Nod) : List D := ns.map (encN vs)
def decO (nl : Addr) (p : Nat) : MO := .ins "Decider" [("nodes_kept", .ref nl), ("at_node", .int (p : Nat))]
def wantsD (ns : List Nod) (p : Nat) : D := match ns[p]? with
  | some (.nod a _ _) => .int (a : Nat)
  | _ => .none
def stp (ns : List Nod) (b : Bool) (p : Nat) : Nat := match ns[p]? with
  | some (.nod _ l h) => if b = true then h else l
  | _ => p
theorem rows_at {vs : List D} {ns : List Nod} {p : Nat} {x : Nod} (e : ns[p]? = some x) {Q : KD} {h : MH} : atK (atI (rowsD vs ns) (p : Nat)) h Q = Q (encN vs x) h := by
  rw [atI_of rfl (show (rowsD vs ns)[p]? = some (encN vs x) by unfold rowsD; rw [List.getElem?_map, e]; rfl)]; rfl
def sp_Decider___init__ : P1 := fun ds h Q => ∃ (d : Addr) (vs : List D) (ns : List Nod), ds = [.ref d, tabD vs ns] ∧ h d = some (.ins "Decider" []) ∧ 0 < ns.length ∧ ns.length ≤ 1000000 ∧ ∀ nl, h nl = none → Q .none (up (up h nl (.lst (rowsD vs ns))) d (decO nl (ns.length - 1)))
theorem len_Decider___init__ : ∀ ds h Q, sp_Decider___init__ ds h Q → ds.length = 2 := fun ds h Q ⟨_, _, _, e, _⟩ => by rw [e]; rfl
theorem sat_Decider___init__ : ∀ ds h Q, sp_Decider___init__ ds h Q → rd_Decider___init__ (endN Q) (startD 2 ds) h := by
  rintro ds h Q ⟨d, vs, ns, rfl, ed, hl, hl2, q⟩
  show rd_Decider___init__ (endN Q) [some (.ref d), some (tabD vs ns)] h
  unfold rd_Decider___init__
  walk_at "ev"
  unfold dAsgF
  walk_at "ev"
  show seqK _ (some (rowsD vs ns))
  walk_at "ev"
  intro nl nnl
  have ne := nef ed nnl
  refine ⟨d, _, _, rfl, by rw [up_ne ne]; exact ed, by simp, by decide, ?_⟩
  unfold rd_Decider___init___1
  unfold dAsgF
  walk_at "ev"
  simp only [len_tab]
  walk_at "ev"
  refine ⟨d, _, _, rfl, up_same, by simp, (show 1 < 1000 by decide), ?_⟩
  rw [up_up]
  have e1 : (ns.length : Int) - 1 = ((ns.length - 1 : Nat) : Int) := by omega
  rw [e1]
  exact lh_of (q nl nnl)
def sp_Decider_wants : P1 := fun ds h Q => ∃ (d nl : Addr) (vs : List D) (ns : List Nod) (p : Nat), ds = [.ref d] ∧ h d = some (decO nl p) ∧ h nl = some (.lst (rowsD vs ns)) ∧ p < ns.length ∧ Q (wantsD ns p) h
theorem len_Decider_wants : ∀ ds h Q, sp_Decider_wants ds h Q → ds.length = 1 := fun ds h Q ⟨_, _, _, _, _, e, _⟩ => by rw [e]; rfl
theorem get_kept {d nl : Addr} {p : Nat} {h : MH} {Q : KD} (e : h d = some (decO nl p)) (q : Q (.ref nl) h) : attrD "nodes_kept" ["Decider"] [] (.ref d) h Q := ⟨d, _, _, rfl, e, .inl ⟨by simp, _, rfl, q⟩⟩
theorem get_at {d nl : Addr} {p : Nat} {h : MH} {Q : KD} (e : h d = some (decO nl p)) (q : Q (.int (p : Nat)) h) : attrD "at_node" ["Decider"] [] (.ref d) h Q := ⟨d, _, _, rfl, e, .inl ⟨by simp, _, rfl, q⟩⟩
theorem get_node {d nl : Addr} {vs : List D} {ns : List Nod} {p : Nat} {x : Nod} {h : MH} {σ : Sl} {Q : KD} (hs : nth σ 0 = some (.ref d)) (e : h d = some (decO nl p)) (el : h nl = some (.lst (rowsD vs ns))) (ep : ns[p]? = some x) (q : Q (encN vs x) h) :
    dOp ixD (dUn (attrD "nodes_kept" ["Decider"] []) (dVar 0)) (dUn (attrD "at_node" ["Decider"] []) (dVar 0)) σ h Q := by
  rw [e_op, e_un, e_var, hs, e_varK]
  refine get_kept e ?_
  rw [e_un, e_var, hs, e_varK]
  refine get_at e ?_
  walk_at "ev"
  rw [el]
  walk_at "ev"
  rw [rows_at ep]
  exact q
theorem sat_Decider_wants : ∀ ds h Q, sp_Decider_wants ds h Q → rd_Decider_wants (endN Q) (startD 2 ds) h := by
  rintro ds h Q ⟨d, nl, vs, ns, p, rfl, ed, el, hp, q⟩
  show rd_Decider_wants (endN Q) [some (.ref d), none] h
  unfold rd_Decider_wants
  rw [e_seq, e_asg]
  have e := List.getElem?_eq_getElem hp
  unfold wantsD at q
  rw [e] at q
  refine get_node rfl ed el e ?_
  unfold rd_Decider_wants_1
  cases h1 : ns[p] with
  | leaf k =>
    rw [h1] at q
    walk_at "ev"
    rw [nd_0l]
    walk_at "ev"
    rw [if_pos (by decide)]
    exact lh_of q
  | nod a l h' =>
    rw [h1] at q
    walk_at "ev"
    rw [nd_0n]
    walk_at "ev"
    rw [if_neg (by decide)]
    rw [nd_0n]
    exact lh_of q
def sp_Decider_value : P1 := fun ds h Q => ∃ (d nl : Addr) (vs : List D) (ns : List Nod) (p : Nat), ds = [.ref d] ∧ h d = some (decO nl p) ∧ h nl = some (.lst (rowsD vs ns)) ∧ p < ns.length ∧ Q (valAt vs ns p) h
theorem len_Decider_value : ∀ ds h Q, sp_Decider_value ds h Q → ds.length = 1 := fun ds h Q ⟨_, _, _, _, _, e, _⟩ => by rw [e]; rfl
theorem sat_Decider_value : ∀ ds h Q, sp_Decider_value ds h Q → rd_Decider_value (endN Q) (startD 2 ds) h := by
  rintro ds h Q ⟨d, nl, vs, ns, p, rfl, ed, el, hp, q⟩
  show rd_Decider_value (endN Q) [some (.ref d), none] h
  unfold rd_Decider_value
  rw [e_seq, e_asg]
  have e := List.getElem?_eq_getElem hp
  unfold valAt at q
  rw [e] at q
  refine get_node rfl ed el e ?_
  unfold rd_Decider_value_1
  cases h1 : ns[p] with
  | leaf k =>
    rw [h1] at q
    walk_at "ev"
    rw [nd_0l]
    walk_at "ev"
    rw [if_pos (by decide)]
    rw [nd_1l]
    exact lh_of q
  | nod a l h' =>
    rw [h1] at q
    walk_at "ev"
    rw [nd_0n]
    walk_at "ev"
    rw [if_neg (by decide)]
    exact lh_of q
def sp_Decider_told : P1 := fun ds h Q => ∃ (d nl : Addr) (vs : List D) (ns : List Nod) (p : Nat) (b : Bool), ds = [.ref d, .bool b] ∧ h d = some (decO nl p) ∧ h nl = some (.lst (rowsD vs ns)) ∧ p < ns.length ∧ Q .none (up h d (decO nl (stp ns b p)))
theorem len_Decider_told : ∀ ds h Q, sp_Decider_told ds h Q → ds.length = 2 := fun ds h Q ⟨_, _, _, _, _, _, e, _⟩ => by rw [e]; rfl
theorem sat_Decider_told : ∀ ds h Q, sp_Decider_told ds h Q → rd_Decider_told (endN Q) (startD 3 ds) h := by
  rintro ds h Q ⟨d, nl, vs, ns, p, b, rfl, ed, el, hp, q⟩
  show rd_Decider_told (endN Q) [some (.ref d), some (.bool b), none] h
  unfold rd_Decider_told
  rw [e_seq, e_asg]
  have e := List.getElem?_eq_getElem hp
  unfold stp at q
  rw [e] at q
  refine get_node rfl ed el e ?_
  unfold rd_Decider_told_1
  unfold dAsgF
  cases h1 : ns[p] with
  | leaf k =>
    rw [h1] at q
    have q : Q .none (up h d (decO nl p)) := q
    rw [up_id ed] at q
    walk_at "ev"
    rw [nd_0l]
    walk_at "ev"
    rw [if_neg (by decide)]
    exact lh_of q
  | nod a l h' =>
    rw [h1] at q
    walk_at "ev"
    rw [nd_0n]
    walk_at "ev"
    rw [if_pos (by decide)]
    cases b with
    | true =>
      rw [if_pos rfl, nd_2n]
      exact ⟨d, _, _, rfl, ed, by simp, (show 2 < 1000 by decide), lh_of q⟩
    | false =>
      rw [if_neg (by decide), nd_1n]
      exact ⟨d, _, _, rfl, ed, by simp, (show 2 < 1000 by decide), lh_of q⟩
end DL
namespace DL
open PySem PySem.Spec PyProof.Rows L2
local macro_rules | `(tactic| walk_at "ev") => `(tactic| try simp only [e_seq, e_next, e_brk, e_cnt, e_drop, e_ret, e_retN, e_ifS, e_asg, e_gN, e_gSb, e_gTp, e_gCn, e_gNl, e_var, e_varK, e_nth0, e_nthS, e_put0, e_putS, e_c, e_op, e_un, e_call, e_nil, e_cons, e_tup, e_lst, e_test, e_asB, e_tru, e_andT, e_orT, e_notT, e_andV, e_orV, e_notV, e_if, e_aug, e_augS, e_sl, e_part, e_partK, e_noPart, e_bm0, e_bm, e_join, e_yes, e_wipe0, e_wipeS, e_lc, e_for, v_add, v_addS, v_addT, v_iadd, v_sub, v_mul, v_fdiv, v_mod, v_pow, v_shl, v_shr, v_neg, v_lt, v_le, v_gt, v_ge, v_eqI, v_neI, v_eqS, v_neS, v_inS, v_ninS, v_inT, v_ninT, v_inR, v_ninR, v_inSeq, v_seqO, v_seqR, v_seqT, v_seqL, v_ixR, v_ixT, v_ixL, v_ixS, v_atK, v_atSK, v_get, v_getL, v_getK, v_set, v_setL, v_setK, v_on1, v_on2, v_lenR, v_lenT, v_lenL, v_lenS, v_seqK, v_tuple, v_list, v_abs, v_intI, v_intB, v_okL, v_isLst, v_app, v_lstK, v_slS, v_slT, v_join, v_is, v_isnot, v_max, v_min, v_iSeq, v_srcT, v_srcL, v_srcS, v_srcR, v_srcO, v_iRg1, v_rg1, v_truN, v_truB, v_truI, v_truS, v_truR, v_truT, v_truRol, v_truL, v_inRol, v_ninRol, v_inO, v_inOd, v_inDic, v_ixO, v_ixOd, v_ixSeq, v_ixDic, v_dgetK, v_ixStr, v_getO, v_getOd, v_setO, v_setOd, v_setDic, v_lenO, v_lenOd, e_dic0, e_disp, e_pairs0, e_pairsS, e_chain, v_bits, v_iRg3, v_rg3, v_iRg2, v_rg2, v_iEn, v_enT, v_enR, v_enO, v_iZp, v_zpT, v_zpR, v_zpO, v_repr, v_strI, v_strS, v_addR, v_and, v_slR, v_slL, v_ltS, v_srtT, v_srtR, v_srtO, v_srtD, v_revR, v_revT, v_isB, v_iZs, v_zsT, e_split, v_split, v_words, v_index, v_eqIS, v_neIS, v_eqB, v_neB])
local macro_rules | `(tactic| walk_at "e0") => `(tactic| try simp only [e_seq, e_brk, e_cnt, e_drop, e_ret, e_retN, e_ifS, e_asg, e_gN, e_gSb, e_gTp, e_gCn, e_gNl, e_var, e_varK, e_nth0, e_nthS, e_put0, e_putS, e_c, e_op, e_un, e_call, e_nil, e_cons, e_tup, e_lst, e_test, e_asB, e_tru, e_andT, e_orT, e_notT, e_andV, e_orV, e_notV, e_if, e_aug, e_augS, e_sl, e_part, e_partK, e_noPart, e_bm0, e_bm, e_join, e_yes, e_wipe0, e_wipeS, e_lc, e_for, v_add, v_addS, v_addT, v_iadd, v_sub, v_mul, v_fdiv, v_mod, v_pow, v_shl, v_shr, v_neg, v_lt, v_le, v_gt, v_ge, v_eqI, v_neI, v_eqS, v_neS, v_inS, v_ninS, v_inT, v_ninT, v_inR, v_ninR, v_inSeq, v_seqO, v_seqR, v_seqT, v_seqL, v_ixR, v_ixT, v_ixL, v_ixS, v_atK, v_atSK, v_get, v_getL, v_getK, v_set, v_setL, v_setK, v_on1, v_on2, v_lenR, v_lenT, v_lenL, v_lenS, v_seqK, v_tuple, v_list, v_abs, v_intI, v_intB, v_okL, v_isLst, v_app, v_lstK, v_slS, v_slT, v_join, v_is, v_isnot, v_max, v_min, v_iSeq, v_srcT, v_srcL, v_srcS, v_srcR, v_srcO, v_iRg1, v_rg1, v_truN, v_truB, v_truI, v_truS, v_truR, v_truT, v_truRol, v_truL, v_inRol, v_ninRol, v_inO, v_inOd, v_inDic, v_ixO, v_ixOd, v_ixSeq, v_ixDic, v_dgetK, v_ixStr, v_getO, v_getOd, v_setO, v_setOd, v_setDic, v_lenO, v_lenOd, e_dic0, e_disp, e_pairs0, e_pairsS, e_chain, v_bits, v_iRg3, v_rg3, v_iRg2, v_rg2, v_iEn, v_enT, v_enR, v_enO, v_iZp, v_zpT, v_zpR, v_zpO, v_repr, v_strI, v_strS, v_addR, v_and, v_slR, v_slL, v_ltS, v_srtT, v_srtR, v_srtO, v_srtD, v_revR, v_revT, v_isB, v_iZs, v_zsT, v_eqIS, v_neIS, v_eqB, v_neB])
open T50
section
variable {ns : List Nod} {v : List Bool} {n : Nat}
theorem look_at (O : Ord n ns) : ∀ i p, p < ns.length → i < (looks ns v p).length → ∃ a l h, ns[walkN ns v i p]? = some (.nod a l h) ∧ (looks ns v p)[i]? = some a
  | i, p, hp, hi => by
    cases e : isLf ns p with
    | true => rw [looks_leaf e] at hi; cases hi
    | false =>
      obtain ⟨a, l, h, q⟩ := nod_of hp e
      have hs := step_lt (v := v) O hp e
      cases i with
      | zero => exact ⟨a, l, h, q, by rw [looks_nod O q]; rfl⟩
      | succ i =>
        rw [looks_nod O q, List.length_cons] at hi
        obtain ⟨a', l', h', e1, e2⟩ := look_at O i (stepN ns v p) (by omega) (by omega)
        exact ⟨a', l', h', e1, by rw [looks_nod O q]; exact e2⟩
theorem look_end (O : Ord n ns) : ∀ t p, p < t → p < ns.length → isLf ns (walkN ns v (looks ns v p).length p) = true ∧ walkN ns v (looks ns v p).length p = fin ns v p
  | 0, p, h, _ => by omega
  | t + 1, p, ht, hp => by
    cases e : isLf ns p with
    | true => rw [looks_leaf e, fin_leaf e]; exact ⟨e, rfl⟩
    | false =>
      obtain ⟨a, l, h, q⟩ := nod_of hp e
      have hs := step_lt (v := v) O hp e
      have ih := look_end O t (stepN ns v p) (by omega) (by omega)
      rw [looks_nod O q, List.length_cons, ← fin_step O hp]
      exact ih
theorem look_up (O : Ord n ns) {i p : Nat} (hp : p < ns.length) (hi : i + 1 < (looks ns v p).length) : (looks ns v p).getD i 0 < (looks ns v p).getD (i + 1) 0 := by
  obtain ⟨a, l, h, e1, e2⟩ := look_at (v := v) O i p hp (by omega)
  obtain ⟨a', l', h', e3, e4⟩ := look_at (v := v) O (i + 1) p hp hi
  rw [List.getD_eq_getElem?_getD, List.getD_eq_getElem?_getD, e2, e4]
  show a < a'
  rw [walk_add] at e3
  obtain ⟨_, _, _, h4, h5⟩ := O.nod _ _ _ _ e1
  have : a < atomN ns n (stepN ns v (walkN ns v i p)) := by rw [step_nod e1]; split <;> assumption
  rw [atom_nod e3] at this
  exact this
theorem stp_step {p a l h : Nat} (e : ns[p]? = some (.nod a l h)) : stp ns (bit v a) p = stepN ns v p := by
  rw [step_nod e]; unfold stp; rw [e]
theorem stp_leaf {p : Nat} {b : Bool} (e : isLf ns p = true) : stp ns b p = p := by
  obtain ⟨k, e⟩ := leaf_of e
  unfold stp; rw [e]
end
def wayD (vs : List D) (ns : List Nod) (v : List Bool) : D := .tup [valAt vs ns (fin ns v (ns.length - 1)), .tup (natsD (looks ns v (ns.length - 1)))]
def sp__law_way : P1 := fun ds h Q => ∃ (vs : List D) (n : Nat) (ns : List Nod) (v : List Bool), ds = [tabD vs ns, vD v] ∧ Ord n ns ∧ v.length = n ∧ n ≤ 100000 ∧ ns.length ≤ 1000000 ∧ Q (wayD vs ns v) h
theorem len__law_way : ∀ ds h Q, sp__law_way ds h Q → ds.length = 2 := fun ds h Q ⟨_, _, _, _, e, _⟩ => by rw [e]; rfl
theorem sat__law_way : ∀ ds h Q, sp__law_way ds h Q → rd__law_way (endN Q) (startD 8 ds) h := by
  rintro ds h Q ⟨vs, n, ns, v, rfl, O, hv, hn, hl, q⟩
  have hne := O.ne
  show rd__law_way (endN Q) [some (tabD vs ns), some (vD v), none, none, none, none, none, none] h
  unfold rd__law_way
  walk_at "ev"
  simp only [len_tab]
  walk_at "ev"
  have e1 : (ns.length : Int) - 1 = ((ns.length - 1 : Nat) : Int) := by omega
  rw [e1]
  unfold rd__law_way_1
  walk_at "ev"
  refine ⟨by decide, fun lo nlo => ?_⟩
  unfold rd__law_way_2
  walk_at "ev"
  simp only [len_tab]
  walk_at "ev"
  refine ⟨bnd62 (by omega), ?_⟩
  refine ⟨fun i σ hh => ∃ L t x y z, hh = up h lo (.lst (natsD L)) ∧ L ++ looks ns v (walkN ns v i (ns.length - 1)) = looks ns v (ns.length - 1) ∧ σ = [some (tabD vs ns), some (vD v), some (.int (walkN ns v i (ns.length - 1) : Nat)), some (.ref lo), t, x, y, z], Lw.of ⟨[], _, _, _, _, rfl, rfl, rfl⟩, fun _ _ _ _ => trivial, ?_, ?_⟩
  · rintro i x σ hh hx ⟨L, t, x5, y, z, rfl, hL, rfl⟩
    obtain ⟨hi, rfl⟩ := rg_at hx
    have hp := walk_lt (v := v) O i (ns.length - 1) (by omega)
    walk_at "ev"
    unfold rd__law_way_b1
    walk_at "ev"
    rw [neLeaf hp]
    walk_at "ev"
    cases e : isLf ns (walkN ns v i (ns.length - 1)) with
    | true =>
      rw [if_neg (by decide)]
      have e2 : walkN ns v (i + 1) (ns.length - 1) = walkN ns v i (ns.length - 1) := by rw [walk_add, step_leaf e]
      exact Lw.of ⟨L, _, _, _, _, rfl, by rw [e2]; exact hL, by rw [e2]⟩
    | false =>
      rw [if_pos (by decide)]
      obtain ⟨a, l, h', q2⟩ := nod_of hp e
      have ha := (O.nod _ _ _ _ q2).2.2.1
      rw [enc_at q2]
      show gTp 3 _ (.tup [.int (a : Nat), .int (l : Nat), .int (h' : Nat)]) _ _ _
      walk_at "ev"
      refine ⟨rfl, ?_⟩
      rw [up_same]
      walk_at "ev"
      have hlen := looks_len (v := v) O ns.length (ns.length - 1) (by omega) (by omega)
      have hLl : L.length ≤ n := by rw [← hL, List.length_append] at hlen; omega
      refine ⟨trivial, by rw [nats_len]; exact sl_lt (by omega), ?_⟩
      rw [up_up]
      simp only [ixV (show a < v.length by omega)]
      walk_at "ev"
      have fin' : ∀ {w : Nat}, w = stepN ns v (walkN ns v i (ns.length - 1)) → Lw (fun σ hh => ∃ L t x y z, hh = up h lo (.lst (natsD L)) ∧ L ++ looks ns v (walkN ns v (i + 1) (ns.length - 1)) = looks ns v (ns.length - 1) ∧ σ = [some (tabD vs ns), some (vD v), some (.int (walkN ns v (i + 1) (ns.length - 1) : Nat)), some (.ref lo), t, x, y, z]) [some (tabD vs ns), some (vD v), some (.int (w : Nat)), some (.ref lo), some (.int (i : Nat)), some (.int (a : Nat)), some (.int (l : Nat)), some (.int (h' : Nat))] (up h lo (.lst (natsD L ++ [.int (a : Nat)]))) := fun {w} ew => by
        subst ew
        refine Lw.of ⟨L ++ [a], _, _, _, _, ?_, ?_, by rw [walk_add]⟩
        · unfold natsD; rw [List.map_append]; rfl
        · rw [looks_nod O q2] at hL
          rw [walk_add, ← hL, List.append_assoc]; rfl
      split
      · rename_i hb
        exact fin' (by rw [step_nod q2, if_pos hb])
      · rename_i hb
        exact fin' (by rw [step_nod q2, if_neg hb])
  · rintro σ hh ⟨L, t, x5, y, z, rfl, hL, rfl⟩
    rw [rg_len] at hL ⊢
    obtain ⟨k1, k2⟩ := fin_ok (v := v) O (p := ns.length - 1) (by omega)
    have hL : L ++ looks ns v (fin ns v (ns.length - 1)) = looks ns v (ns.length - 1) := hL
    have ef : walkN ns v ns.length (ns.length - 1) = fin ns v (ns.length - 1) := rfl
    rw [ef]
    unfold rd__law_way_3
    walk_at "ev"
    rw [val_ix k1]
    rw [up_same]
    walk_at "ev"
    refine ⟨by show 2 ≤ sizeLine; decide, lh_le (le.up nlo) ?_⟩
    rw [looks_leaf k1, List.append_nil] at hL
    rw [hL]; exact q
/-! is there -/
def There (h : MH) (x w t : D) : Prop := ∃ (d nl : Addr) (vs : List D) (ns : List Nod) (p : Nat) (val : D) (L : List Nat) (k : Nat), x = .ref d ∧ w = .tup [val, .tup (natsD L)] ∧ t = .int (k : Nat) ∧ h d = some (decO nl p) ∧ h nl = some (.lst (rowsD vs ns)) ∧ p < ns.length ∧ ValsOk vs ∧ LfOk vs ns ∧
  ((∃ a l h', k < L.length ∧ ns[p]? = some (.nod a l h') ∧ L[k]? = some a) ∨ (L.length ≤ k ∧ isLf ns p = true ∧ val = valAt vs ns p))
def sp__law_is_there : P1 := fun ds h Q => ∃ x w t, ds = [x, w, t] ∧ There h x w t ∧ Q (.bool true) h
theorem len__law_is_there : ∀ ds h Q, sp__law_is_there ds h Q → ds.length = 3 := fun ds h Q ⟨_, _, _, e, _⟩ => by rw [e]; rfl
theorem get_wants {d nl : Addr} {vs : List D} {ns : List Nod} {p : Nat} {h : MH} {Q : KD} (e : h d = some (decO nl p)) (el : h nl = some (.lst (rowsD vs ns))) (hp : p < ns.length) (q : Q (wantsD ns p) h) : attrD "wants" [] [("Decider", sp_Decider_wants)] (.ref d) h Q := ⟨d, _, _, rfl, e, .inr ⟨_, List.mem_singleton.mpr rfl, d, nl, vs, ns, p, rfl, e, el, hp, q⟩⟩
theorem get_value {d nl : Addr} {vs : List D} {ns : List Nod} {p : Nat} {h : MH} {Q : KD} (e : h d = some (decO nl p)) (el : h nl = some (.lst (rowsD vs ns))) (hp : p < ns.length) (q : Q (valAt vs ns p) h) : attrD "value" [] [("Decider", sp_Decider_value)] (.ref d) h Q := ⟨d, _, _, rfl, e, .inr ⟨_, List.mem_singleton.mpr rfl, d, nl, vs, ns, p, rfl, e, el, hp, q⟩⟩
theorem sat__law_is_there : ∀ ds h Q, sp__law_is_there ds h Q → rd__law_is_there (sp__law_same 5) sp_Decider_wants sp_Decider_value (endN Q) (startD 5 ds) h := by
  rintro ds h Q ⟨x, w, t, rfl, ⟨d, nl, vs, ns, p, val, L, k, rfl, rfl, rfl, ed, el, hp, V, F, c⟩, q⟩
  show rd__law_is_there (sp__law_same 5) sp_Decider_wants sp_Decider_value (endN Q) [some (.ref d), some (.tup [val, .tup (natsD L)]), some (.int (k : Nat)), none, none] h
  unfold rd__law_is_there
  walk_at "ev"
  refine ⟨rfl, ?_⟩
  unfold rd__law_is_there_1
  walk_at "ev"
  rw [nats_len]
  rcases c with ⟨a, l, h', hk, e, ea⟩ | ⟨hk, e, rfl⟩
  · rw [if_pos (by simp; omega)]
    refine get_wants ed el hp ?_
    have ew : wantsD ns p = .int (a : Nat) := by unfold wantsD; rw [e]
    rw [ew, atI_of rfl (nats_get ea)]
    walk_at "ev"
    refine ⟨_, _, rfl, by decide, by simp [pure?], by simp [pure?], by simp [okY], ?_⟩
    have es : sameB (.int (a : Nat)) (.int (a : Nat)) = true := by simp [sameB]
    rw [es]
    walk_at "ev"
    rw [if_pos trivial]
    refine get_value ed el hp ?_
    have ev : valAt vs ns p = .none := by unfold valAt; rw [e]
    rw [ev]
    exact lh_of q
  · rw [if_neg (by simp; omega)]
    unfold rd__law_is_there_2
    walk_at "ev"
    refine get_wants ed el hp ?_
    have ew : wantsD ns p = .none := by obtain ⟨j, e⟩ := leaf_of e; unfold wantsD; rw [e]
    rw [ew]
    walk_at "ev"
    rw [if_pos (show isNone D.none = true from rfl)]
    refine get_value ed el hp ?_
    have pp := val_pure V F e
    refine ⟨_, _, rfl, by decide, pure_le (by decide) _ pp.1, pure_le (by decide) _ pp.1, pp.2, ?_⟩
    rw [same_leaf V F e e, beq_self_eq_true]
    exact lh_of q
def sp__law_all_there : P1 := fun ds h Q => ∃ (dl wl pl : Addr) (dec ways pls : List D), ds = [.ref dl, .ref wl, .ref pl] ∧ h dl = some (.lst dec) ∧ h wl = some (.lst ways) ∧ h pl = some (.lst pls) ∧ ways.length ≤ 100 ∧ (∀ k, k < ways.length → ∃ x w t, dec[k]? = some x ∧ ways[k]? = some w ∧ pls[k]? = some t ∧ There h x w t) ∧ Q (.bool true) h
theorem len__law_all_there : ∀ ds h Q, sp__law_all_there ds h Q → ds.length = 3 := fun ds h Q ⟨_, _, _, _, _, _, e, _⟩ => by rw [e]; rfl
theorem sat__law_all_there : ∀ ds h Q, sp__law_all_there ds h Q → rd__law_all_there sp__law_is_there (endN Q) (startD 4 ds) h := by
  rintro ds h Q ⟨dl, wl, pl, dec, ways, pls, rfl, ed, ew, ep, hl, hT, q⟩
  show rd__law_all_there sp__law_is_there (endN Q) [some (.ref dl), some (.ref wl), some (.ref pl), none] h
  unfold rd__law_all_there
  walk_at "ev"
  rw [ew]
  walk_at "ev"
  refine ⟨bnd62 (by omega), ?_⟩
  refine lcT_t (List.range ways.length) (fun (k : Nat) => .int k) (fun _ => .bool true) (rgD_0 _) (Nat.le_of_lt (sl_lt (by rw [List.length_range]; omega))) trivial (fun k hk Q' hQ => ?_) fun l nl => ?_
  · obtain ⟨x, w, t, e1, e2, e3, T⟩ := hT k (List.mem_range.mp hk)
    walk_at "ev"
    rw [ed]
    walk_at "ev"
    rw [atI_of rfl e1]
    walk_at "ev"
    rw [ew]
    walk_at "ev"
    rw [atI_of rfl e2]
    walk_at "ev"
    rw [ep]
    walk_at "ev"
    rw [atI_of rfl e3]
    exact ⟨x, w, t, rfl, T, hQ _ le.refl⟩
  · have e : (List.range ways.length).map (fun _ => D.bool true) = ((List.range ways.length).map fun _ => true).map D.bool := by rw [List.map_map]; rfl
    rw [e]
    refine all_bools ?_
    have e2 : ((List.range ways.length).map fun _ => true).all id = true := by rw [List.all_map, List.all_eq_true]; exact fun _ _ => rfl
    rw [e2]
    exact lh_le (le.up nl) q
def sp__law_rising : P1 := fun ds h Q => ∃ L : List Nat, ds = [.tup (natsD L)] ∧ L.length ≤ 1000000 ∧ (∀ i, i + 1 < L.length → L.getD i 0 < L.getD (i + 1) 0) ∧ Q (.bool true) h
theorem len__law_rising : ∀ ds h Q, sp__law_rising ds h Q → ds.length = 1 := fun ds h Q ⟨_, e, _⟩ => by rw [e]; rfl
theorem sat__law_rising : ∀ ds h Q, sp__law_rising ds h Q → rd__law_rising (endN Q) (startD 2 ds) h := by
  rintro ds h Q ⟨L, rfl, hl, hT, q⟩
  show rd__law_rising (endN Q) [some (.tup (natsD L)), none] h
  unfold rd__law_rising
  walk_at "ev"
  rw [nats_len]
  refine ⟨⟨by omega, by omega⟩, ?_⟩
  have er : rgD 0 ((L.length : Int) - 1).toNat = (List.range (L.length - 1)).map fun (i : Nat) => D.int i := by
    rw [rgD_0]; congr 2; omega
  refine lcT_t (List.range (L.length - 1)) (fun (k : Nat) => .int k) (fun _ => .bool true) er (Nat.le_of_lt (sl_lt (by rw [List.length_range]; omega))) trivial (fun k hk Q' hQ => ?_) fun l nl => ?_
  · have hk := List.mem_range.mp hk
    have h1 := hT k (by omega)
    rw [List.getD_eq_getElem?_getD, List.getD_eq_getElem?_getD, List.getElem?_eq_getElem (show k < L.length by omega), List.getElem?_eq_getElem (show k + 1 < L.length by omega)] at h1
    walk_at "ev"
    rw [atI_of rfl (nats_get (List.getElem?_eq_getElem (show k < L.length by omega)))]
    walk_at "ev"
    rw [atI_of (show (k : Int) + 1 = ((k + 1 : Nat) : Int) by omega) (nats_get (List.getElem?_eq_getElem (show k + 1 < L.length by omega)))]
    walk_at "ev"
    rw [decide_eq_true (show (L[k] : Int) < (L[k + 1] : Int) by simp at h1; omega)]
    exact hQ _ le.refl
  · have e : (List.range (L.length - 1)).map (fun _ => D.bool true) = ((List.range (L.length - 1)).map fun _ => true).map D.bool := by rw [List.map_map]; rfl
    rw [e]
    refine all_bools ?_
    have e2 : ((List.range (L.length - 1)).map fun _ => true).all id = true := by rw [List.all_map, List.all_eq_true]; exact fun _ _ => rfl
    rw [e2]
    exact lh_le (le.up nl) q
end DL
namespace DL
open PySem PySem.Spec PyProof.Rows L2
local macro_rules | `(tactic| walk_at "ev") => `(tactic| try simp only [e_seq, e_next, e_brk, e_cnt, e_drop, e_ret, e_retN, e_ifS, e_asg, e_gN, e_gSb, e_gTp, e_gCn, e_gNl, e_var, e_varK, e_nth0, e_nthS, e_put0, e_putS, e_c, e_op, e_un, e_call, e_nil, e_cons, e_tup, e_lst, e_test, e_asB, e_tru, e_andT, e_orT, e_notT, e_andV, e_orV, e_notV, e_if, e_aug, e_augS, e_sl, e_part, e_partK, e_noPart, e_bm0, e_bm, e_join, e_yes, e_wipe0, e_wipeS, e_lc, e_for, v_add, v_addS, v_addT, v_iadd, v_sub, v_mul, v_fdiv, v_mod, v_pow, v_shl, v_shr, v_neg, v_lt, v_le, v_gt, v_ge, v_eqI, v_neI, v_eqS, v_neS, v_inS, v_ninS, v_inT, v_ninT, v_inR, v_ninR, v_inSeq, v_seqO, v_seqR, v_seqT, v_seqL, v_ixR, v_ixT, v_ixL, v_ixS, v_atK, v_atSK, v_get, v_getL, v_getK, v_set, v_setL, v_setK, v_on1, v_on2, v_lenR, v_lenT, v_lenL, v_lenS, v_seqK, v_tuple, v_list, v_abs, v_intI, v_intB, v_okL, v_isLst, v_app, v_lstK, v_slS, v_slT, v_join, v_is, v_isnot, v_max, v_min, v_iSeq, v_srcT, v_srcL, v_srcS, v_srcR, v_srcO, v_iRg1, v_rg1, v_truN, v_truB, v_truI, v_truS, v_truR, v_truT, v_truRol, v_truL, v_inRol, v_ninRol, v_inO, v_inOd, v_inDic, v_ixO, v_ixOd, v_ixSeq, v_ixDic, v_dgetK, v_ixStr, v_getO, v_getOd, v_setO, v_setOd, v_setDic, v_lenO, v_lenOd, e_dic0, e_disp, e_pairs0, e_pairsS, e_chain, v_bits, v_iRg3, v_rg3, v_iRg2, v_rg2, v_iEn, v_enT, v_enR, v_enO, v_iZp, v_zpT, v_zpR, v_zpO, v_repr, v_strI, v_strS, v_addR, v_and, v_slR, v_slL, v_ltS, v_srtT, v_srtR, v_srtO, v_srtD, v_revR, v_revT, v_isB, v_iZs, v_zsT, e_split, v_split, v_words, v_index, v_eqIS, v_neIS, v_eqB, v_neB])
local macro_rules | `(tactic| walk_at "e0") => `(tactic| try simp only [e_seq, e_brk, e_cnt, e_drop, e_ret, e_retN, e_ifS, e_asg, e_gN, e_gSb, e_gTp, e_gCn, e_gNl, e_var, e_varK, e_nth0, e_nthS, e_put0, e_putS, e_c, e_op, e_un, e_call, e_nil, e_cons, e_tup, e_lst, e_test, e_asB, e_tru, e_andT, e_orT, e_notT, e_andV, e_orV, e_notV, e_if, e_aug, e_augS, e_sl, e_part, e_partK, e_noPart, e_bm0, e_bm, e_join, e_yes, e_wipe0, e_wipeS, e_lc, e_for, v_add, v_addS, v_addT, v_iadd, v_sub, v_mul, v_fdiv, v_mod, v_pow, v_shl, v_shr, v_neg, v_lt, v_le, v_gt, v_ge, v_eqI, v_neI, v_eqS, v_neS, v_inS, v_ninS, v_inT, v_ninT, v_inR, v_ninR, v_inSeq, v_seqO, v_seqR, v_seqT, v_seqL, v_ixR, v_ixT, v_ixL, v_ixS, v_atK, v_atSK, v_get, v_getL, v_getK, v_set, v_setL, v_setK, v_on1, v_on2, v_lenR, v_lenT, v_lenL, v_lenS, v_seqK, v_tuple, v_list, v_abs, v_intI, v_intB, v_okL, v_isLst, v_app, v_lstK, v_slS, v_slT, v_join, v_is, v_isnot, v_max, v_min, v_iSeq, v_srcT, v_srcL, v_srcS, v_srcR, v_srcO, v_iRg1, v_rg1, v_truN, v_truB, v_truI, v_truS, v_truR, v_truT, v_truRol, v_truL, v_inRol, v_ninRol, v_inO, v_inOd, v_inDic, v_ixO, v_ixOd, v_ixSeq, v_ixDic, v_dgetK, v_ixStr, v_getO, v_getOd, v_setO, v_setOd, v_setDic, v_lenO, v_lenOd, e_dic0, e_disp, e_pairs0, e_pairsS, e_chain, v_bits, v_iRg3, v_rg3, v_iRg2, v_rg2, v_iEn, v_enT, v_enR, v_enO, v_iZp, v_zpT, v_zpR, v_zpO, v_repr, v_strI, v_strS, v_addR, v_and, v_slR, v_slL, v_ltS, v_srtT, v_srtR, v_srtO, v_srtD, v_revR, v_revT, v_isB, v_iZs, v_zsT, v_eqIS, v_neIS, v_eqB, v_neB])
open T50
structure It where
  vs : List D
  ns : List Nod
  n : Nat
  v : List Bool
structure It.Ok (t : It) : Prop where
  ord : Ord t.n t.ns
  val : ValsOk t.vs
  lf : LfOk t.vs t.ns
  hv : t.v.length = t.n
  le : t.n ≤ 7
  len : t.ns.length ≤ 1000
def It.L (t : It) : List Nat := looks t.ns t.v (t.ns.length - 1)
def It.pl (t : It) (i : Nat) : Nat := walkN t.ns t.v i (t.ns.length - 1)
def It.way (t : It) : D := wayD t.vs t.ns t.v
def It.tab (t : It) : D := tabD t.vs t.ns
section
variable {t : It}
theorem It.Ok.top (o : t.Ok) : t.ns.length - 1 < t.ns.length := by have := o.ord.ne; omega
theorem It.Ok.pl_lt (o : t.Ok) (i : Nat) : t.pl i < t.ns.length := walk_lt o.ord i _ o.top
theorem It.Ok.L_len (o : t.Ok) : t.L.length ≤ 7 := by
  have h := looks_len (v := t.v) o.ord t.ns.length _ o.top o.top
  have := o.le
  unfold It.L; omega
theorem It.Ok.last (o : t.Ok) : isLf t.ns (t.pl t.L.length) = true ∧ t.pl t.L.length = fin t.ns t.v (t.ns.length - 1) := look_end o.ord _ _ o.top o.top
theorem It.Ok.step (o : t.Ok) {i : Nat} (hi : i < t.L.length) : ∃ a, t.L[i]? = some a ∧ a < t.v.length ∧ stp t.ns (bit t.v a) (t.pl i) = t.pl (i + 1) := by
  obtain ⟨a, l, h, e1, e2⟩ := look_at o.ord i _ o.top hi
  refine ⟨a, e2, by rw [o.hv]; exact (o.ord.nod _ _ _ _ e1).2.2.1, ?_⟩
  unfold It.pl
  rw [stp_step e1, walk_add]
theorem It.Ok.there (o : t.Ok) {h : MH} {d nl : Addr} {i : Nat} (ed : h d = some (decO nl (t.pl i))) (el : h nl = some (.lst (rowsD t.vs t.ns))) (hi : i ≤ t.L.length) : There h (.ref d) t.way (.int (i : Nat)) := by
  refine ⟨d, nl, t.vs, t.ns, t.pl i, _, t.L, i, rfl, rfl, rfl, ed, el, o.pl_lt i, o.val, o.lf, ?_⟩
  rcases Nat.lt_or_ge i t.L.length with h1 | h1
  · obtain ⟨a, l, h', e1, e2⟩ := look_at o.ord i _ o.top h1
    exact .inl ⟨a, l, h', h1, e1, e2⟩
  · obtain rfl : i = t.L.length := by omega
    exact .inr ⟨h1, o.last.1, by rw [o.last.2]⟩
theorem same_nats : ∀ L : List Nat, sameBs (natsD L) (natsD L) = true
  | [] => by simp [natsD, sameBs]
  | x :: L => by
    have ih := same_nats L
    unfold natsD at ih ⊢
    rw [List.map_cons]
    simp only [sameBs, ih, Bool.and_true]
    simp [sameB]
theorem It.Ok.way_ok (o : t.Ok) : pure? 4 t.way = true ∧ okY t.way = true ∧ sameB t.way t.way = true := by
  have f := (fin_ok (v := t.v) o.ord o.top).1
  have p := val_pure o.val o.lf f
  refine ⟨?_, ?_, ?_⟩
  · show pures? 3 _ = true
    refine pures_of fun y hy => ?_
    rcases List.mem_cons.mp hy with rfl | hy
    · exact pure_le (by decide) _ p.1
    · rw [List.mem_singleton.mp hy]
      show pures? 2 _ = true
      refine pures_of fun z hz => ?_
      obtain ⟨i, _, rfl⟩ := List.mem_map.mp hz
      simp [pure?]
  · have okT : ∀ {xs : List D}, xs.length ≤ 100000 → okYs xs = true → okY (.tup xs) = true := fun {xs} h1 h2 => by simp only [okY, h2, decide_eq_true h1]; rfl
    refine okT (by show 2 ≤ 100000; decide) (okYs_of fun y hy => ?_)
    rcases List.mem_cons.mp hy with rfl | hy
    · exact p.2
    · rw [List.mem_singleton.mp hy]
      refine okT (by rw [nats_len]; exact Nat.le_trans o.L_len (by decide)) (okYs_of fun z hz => ?_)
      obtain ⟨i, _, rfl⟩ := List.mem_map.mp hz
      simp [okY]
  · unfold It.way wayD
    have e1 := same_leaf o.val o.lf f f
    rw [beq_self_eq_true] at e1
    simp only [sameB, sameBs, e1, same_nats, Bool.and_true]
theorem way_1 {h : MH} {Q : KD} : ixD t.way (.int 1) h Q = Q (.tup (natsD t.L)) h := rfl
end
/-! three of a kind -/
def r3 (f : Nat → D) : List D := [f 0, f 1, f 2]
theorem r3_at {f : Nat → D} : ∀ {k : Nat}, k < 3 → (r3 f)[k]? = some (f k)
  | 0, _ => rfl
  | 1, _ => rfl
  | 2, _ => rfl
  | k + 3, h => by omega
theorem r3_set {f : Nat → D} {x : D} : ∀ {k : Nat}, k < 3 → (r3 f).set k x = r3 fun j => if j = k then x else f j
  | 0, _ => rfl
  | 1, _ => rfl
  | 2, _ => rfl
  | k + 3, h => by omega
theorem r3_map (f : Nat → D) : r3 f = (List.range 3).map f := rfl
theorem rgT {i : Nat} {x : D} (h : (rgD 0 (3 : Int).toNat)[i]? = some x) : i < 3 ∧ x = .int (i : Nat) := rg_at (n := 3) h
theorem rg3l : (rgD 0 (3 : Int).toNat).length = 3 := by decide
section
variable (I : Nat → It) (pl dl wl rl ul : Addr) (ds nls : Nat → Addr) (p q : Nat → Nat)
def wsL : List (Addr × MO) := [(pl, .lst (r3 fun k => .int (q k : Nat))), (dl, .lst (r3 fun k => .ref (ds k))),
  (nls 0, .lst (rowsD (I 0).vs (I 0).ns)), (ds 0, decO (nls 0) (p 0)), (nls 1, .lst (rowsD (I 1).vs (I 1).ns)), (ds 1, decO (nls 1) (p 1)), (nls 2, .lst (rowsD (I 2).vs (I 2).ns)), (ds 2, decO (nls 2) (p 2)),
  (wl, .lst (r3 fun k => (I k).way)), (rl, .lst (r3 fun k => vD (I k).v)), (ul, .lst (r3 fun k => (I k).tab))]
theorem ws_n : ∀ {k : Nat}, k < 3 → (wsL I pl dl wl rl ul ds nls p q)[2 + 2 * k]? = some (nls k, .lst (rowsD (I k).vs (I k).ns))
  | 0, _ => rfl
  | 1, _ => rfl
  | 2, _ => rfl
  | k + 3, h => by omega
theorem ws_d : ∀ {k : Nat}, k < 3 → (wsL I pl dl wl rl ul ds nls p q)[3 + 2 * k]? = some (ds k, decO (nls k) (p k))
  | 0, _ => rfl
  | 1, _ => rfl
  | 2, _ => rfl
  | k + 3, h => by omega
theorem ws_dset (x : Nat) : ∀ {k : Nat}, k < 3 → (wsL I pl dl wl rl ul ds nls p q).set (3 + 2 * k) (ds k, decO (nls k) x) = wsL I pl dl wl rl ul ds nls (fun j => if j = k then x else p j) q
  | 0, _ => rfl
  | 1, _ => rfl
  | 2, _ => rfl
  | k + 3, h => by omega
theorem ws_pset (x : Nat) : ∀ {k : Nat}, k < 3 → (wsL I pl dl wl rl ul ds nls p q).set 0 (pl, .lst ((r3 fun k => .int (q k : Nat)).set k (.int (x : Nat)))) = wsL I pl dl wl rl ul ds nls p (fun j => if j = k then x else q j)
  | 0, _ => rfl
  | 1, _ => rfl
  | 2, _ => rfl
  | k + 3, h => by omega
end
section
variable {I : Nat → It} {pl dl wl rl ul a c : Addr} {ds nls : Nat → Addr} {p q : Nat → Nat} {h hh : MH} {cs : List Int} {Q : KD}
/-- all of the deciders where they should be -/
def Std (I : Nat → It) (p q : Nat → Nat) : Prop := ∀ k, k < 3 → (I k).Ok ∧ p k = (I k).pl (q k) ∧ q k ≤ (I k).L.length
theorem Std.all {ws : List (Addr × MO)} (S : Std I p q) (L : LV h a c cs hh ws) (s : wsL I pl dl wl rl ul ds nls p q ⊆ ws) (z : Q (.bool true) hh) : sp__law_all_there [.ref dl, .ref wl, .ref pl] hh Q := by
  have m : ∀ {x : Addr} {o : MO} (i : Nat), (wsL I pl dl wl rl ul ds nls p q)[i]? = some (x, o) → hh x = some o := fun {x o} i e => L.mem (s (List.mem_of_getElem? e))
  refine ⟨dl, wl, pl, _, _, _, rfl, m 1 rfl, m 8 rfl, m 0 rfl, by show 3 ≤ 100; decide, fun k hk => ?_, z⟩
  have hk : k < 3 := hk
  obtain ⟨o, e, l⟩ := S k hk
  refine ⟨_, _, _, r3_at hk, r3_at hk, r3_at hk, o.there (m _ (by rw [← e]; exact ws_d _ _ _ _ _ _ _ _ _ _ hk)) (m _ (ws_n _ _ _ _ _ _ _ _ _ _ hk)) l⟩
theorem LV.make {ws : List (Addr × MO)} {t : It} (L : LV h a c cs hh ws) (o : t.Ok) (z : ∀ x nl h1, LV h a c cs h1 ((nl, .lst (rowsD t.vs t.ns)) :: (x, decO nl (t.pl 0)) :: ws) → Q (.ref x) h1) :
    ∀ x, hh x = none → sp_Decider___init__ [.ref x, t.tab] (up hh x (.ins "Decider" [])) (fun v h2 => v = .none ∧ Q (.ref x) h2) := fun x nx => by
  have := o.len
  refine ⟨x, t.vs, t.ns, rfl, up_same, o.ord.ne, by omega, fun nl nnl => ⟨rfl, z x nl _ ?_⟩⟩
  have L1 := L.new nx (.ins "Decider" [])
  have L2 := L1.new nnl (.lst (rowsD t.vs t.ns))
  exact L2.set 1 rfl _
end
section
variable {I : Nat → It} {wl rl ul a c : Addr} {hh : MH} {Q : KD} {s0 s1 s2 s3 s5 s8 s9 s10 s11 s12 s13 s14 s15 s16 : Option D}
theorem law_14 (qq : ∀ h, Q (.bool true) h) (O : ∀ k, k < 3 → (I k).Ok) (eu : hh ul = some (.lst (r3 fun k => (I k).tab))) (er : hh rl = some (.lst (r3 fun k => vD (I k).v))) (ew : hh wl = some (.lst (r3 fun k => (I k).way))) :
    rd_law_14 sp__law_begin sp__law_made sp__law_draw sp__law_way sp_Decider___init__ sp__law_all_there sp__law_pick sp_Decider_told sp__law_is_there sp_decide (sp__law_same 5) sp__law_rising (endN Q) [s0, s1, s2, s3, some (.ref ul), s5, some (.ref rl), some (.ref wl), s8, s9, s10, s11, s12, s13, s14, s15, s16] hh := by
  unfold rd_law_14
  walk_at "e0"
  refine ⟨by decide, ?_⟩
  refine ⟨fun i σ h2 => h2 = hh ∧ ∃ y11 y14, σ = [s0, s1, s2, s3, some (.ref ul), s5, some (.ref rl), some (.ref wl), s8, s9, s10, y11, s12, s13, y14, s15, s16], Lw.of ⟨rfl, _, _, rfl⟩, fun _ _ _ _ => trivial, ?_, ?_⟩
  · rintro i x σ h2 hx ⟨rfl, y11, y14, rfl⟩
    obtain ⟨hi, rfl⟩ := rgT hx
    have o := O i hi
    walk_at "e0"
    unfold rd_law_b4
    walk_at "e0"
    rw [eu]
    walk_at "e0"
    rw [atI_of rfl (r3_at hi)]
    walk_at "e0"
    rw [er]
    walk_at "e0"
    rw [atI_of rfl (r3_at hi)]
    have := o.le
    refine ⟨(I i).vs, (I i).n, (I i).ns, (I i).v, rfl, o.ord, o.hv, by omega, ?_⟩
    have ey : D.tup [valAt (I i).vs (I i).ns (fin (I i).ns (I i).v ((I i).ns.length - 1)), D.tup (natsD (looks (I i).ns (I i).v ((I i).ns.length - 1)))] = (I i).way := rfl
    rw [ey]
    unfold rd_law_b4_1
    walk_at "e0"
    rw [ew]
    walk_at "e0"
    rw [atI_of rfl (r3_at hi)]
    obtain ⟨w1, w2, w3⟩ := o.way_ok
    refine ⟨_, _, rfl, by decide, pure_le (by decide) _ w1, w1, w2, ?_⟩
    rw [w3]
    walk_at "e0"
    rw [if_neg (by decide)]
    rw [way_1]
    have ll := o.L_len
    refine ⟨(I i).L, rfl, by omega, fun j hj => look_up o.ord o.top hj, ?_⟩
    walk_at "e0"
    rw [if_neg (by decide), e_next]
    exact Lw.of ⟨rfl, _, _, rfl⟩
  · rintro σ h2 ⟨rfl, y11, y14, rfl⟩
    unfold rd_law_15
    walk_at "e0"
    exact lh_of (qq _)
end
end DL
namespace DL
open PySem PySem.Spec PyProof.Rows L2
local macro_rules | `(tactic| walk_at "ev") => `(tactic| try simp only [e_seq, e_next, e_brk, e_cnt, e_drop, e_ret, e_retN, e_ifS, e_asg, e_gN, e_gSb, e_gTp, e_gCn, e_gNl, e_var, e_varK, e_nth0, e_nthS, e_put0, e_putS, e_c, e_op, e_un, e_call, e_nil, e_cons, e_tup, e_lst, e_test, e_asB, e_tru, e_andT, e_orT, e_notT, e_andV, e_orV, e_notV, e_if, e_aug, e_augS, e_sl, e_part, e_partK, e_noPart, e_bm0, e_bm, e_join, e_yes, e_wipe0, e_wipeS, e_lc, e_for, v_add, v_addS, v_addT, v_iadd, v_sub, v_mul, v_fdiv, v_mod, v_pow, v_shl, v_shr, v_neg, v_lt, v_le, v_gt, v_ge, v_eqI, v_neI, v_eqS, v_neS, v_inS, v_ninS, v_inT, v_ninT, v_inR, v_ninR, v_inSeq, v_seqO, v_seqR, v_seqT, v_seqL, v_ixR, v_ixT, v_ixL, v_ixS, v_atK, v_atSK, v_get, v_getL, v_getK, v_set, v_setL, v_setK, v_on1, v_on2, v_lenR, v_lenT, v_lenL, v_lenS, v_seqK, v_tuple, v_list, v_abs, v_intI, v_intB, v_okL, v_isLst, v_app, v_lstK, v_slS, v_slT, v_join, v_is, v_isnot, v_max, v_min, v_iSeq, v_srcT, v_srcL, v_srcS, v_srcR, v_srcO, v_iRg1, v_rg1, v_truN, v_truB, v_truI, v_truS, v_truR, v_truT, v_truRol, v_truL, v_inRol, v_ninRol, v_inO, v_inOd, v_inDic, v_ixO, v_ixOd, v_ixSeq, v_ixDic, v_dgetK, v_ixStr, v_getO, v_getOd, v_setO, v_setOd, v_setDic, v_lenO, v_lenOd, e_dic0, e_disp, e_pairs0, e_pairsS, e_chain, v_bits, v_iRg3, v_rg3, v_iRg2, v_rg2, v_iEn, v_enT, v_enR, v_enO, v_iZp, v_zpT, v_zpR, v_zpO, v_repr, v_strI, v_strS, v_addR, v_and, v_slR, v_slL, v_ltS, v_srtT, v_srtR, v_srtO, v_srtD, v_revR, v_revT, v_isB, v_iZs, v_zsT, e_split, v_split, v_words, v_index, v_eqIS, v_neIS, v_eqB, v_neB])
local macro_rules | `(tactic| walk_at "e0") => `(tactic| try simp only [e_seq, e_brk, e_cnt, e_drop, e_ret, e_retN, e_ifS, e_asg, e_gN, e_gSb, e_gTp, e_gCn, e_gNl, e_var, e_varK, e_nth0, e_nthS, e_put0, e_putS, e_c, e_op, e_un, e_call, e_nil, e_cons, e_tup, e_lst, e_test, e_asB, e_tru, e_andT, e_orT, e_notT, e_andV, e_orV, e_notV, e_if, e_aug, e_augS, e_sl, e_part, e_partK, e_noPart, e_bm0, e_bm, e_join, e_yes, e_wipe0, e_wipeS, e_lc, e_for, v_add, v_addS, v_addT, v_iadd, v_sub, v_mul, v_fdiv, v_mod, v_pow, v_shl, v_shr, v_neg, v_lt, v_le, v_gt, v_ge, v_eqI, v_neI, v_eqS, v_neS, v_inS, v_ninS, v_inT, v_ninT, v_inR, v_ninR, v_inSeq, v_seqO, v_seqR, v_seqT, v_seqL, v_ixR, v_ixT, v_ixL, v_ixS, v_atK, v_atSK, v_get, v_getL, v_getK, v_set, v_setL, v_setK, v_on1, v_on2, v_lenR, v_lenT, v_lenL, v_lenS, v_seqK, v_tuple, v_list, v_abs, v_intI, v_intB, v_okL, v_isLst, v_app, v_lstK, v_slS, v_slT, v_join, v_is, v_isnot, v_max, v_min, v_iSeq, v_srcT, v_srcL, v_srcS, v_srcR, v_srcO, v_iRg1, v_rg1, v_truN, v_truB, v_truI, v_truS, v_truR, v_truT, v_truRol, v_truL, v_inRol, v_ninRol, v_inO, v_inOd, v_inDic, v_ixO, v_ixOd, v_ixSeq, v_ixDic, v_dgetK, v_ixStr, v_getO, v_getOd, v_setO, v_setOd, v_setDic, v_lenO, v_lenOd, e_dic0, e_disp, e_pairs0, e_pairsS, e_chain, v_bits, v_iRg3, v_rg3, v_iRg2, v_rg2, v_iEn, v_enT, v_enR, v_enO, v_iZp, v_zpT, v_zpR, v_zpO, v_repr, v_strI, v_strS, v_addR, v_and, v_slR, v_slL, v_ltS, v_srtT, v_srtR, v_srtO, v_srtD, v_revR, v_revT, v_isB, v_iZs, v_zsT, v_eqIS, v_neIS, v_eqB, v_neB])
open T50
section
variable {I : Nat → It} {pl dl wl rl ul a c : Addr} {ds nls : Nat → Addr} {p q : Nat → Nat} {h0 hh : MH} {cs : List Int} {Q : KD} {s0 s2 s3 s5 s10 s11 s12 s13 s14 s15 s16 : Option D}
theorem Std.told_leaf {k : Nat} {b : Bool} (S : Std I p q) (L : LV h0 a c cs hh (wsL I pl dl wl rl ul ds nls p q)) (hk : k < 3) (e : q k = (I k).L.length) (z : Q .none hh) : sp_Decider_told [.ref (ds k), .bool b] hh Q := by
  obtain ⟨o, e1, _⟩ := S k hk
  have ed := L.get _ (ws_d I pl dl wl rl ul ds nls p q hk)
  refine ⟨ds k, nls k, (I k).vs, (I k).ns, p k, b, rfl, ed, L.get _ (ws_n I pl dl wl rl ul ds nls p q hk), by rw [e1]; exact o.pl_lt _, ?_⟩
  rw [stp_leaf (by rw [e1, e]; exact o.last.1), up_id ed]
  exact z
theorem Std.told_step {k x : Nat} (S : Std I p q) (L : LV h0 a c cs hh (wsL I pl dl wl rl ul ds nls p q)) (hk : k < 3) (hx : (I k).L[q k]? = some x) (z : ∀ h1, LV h0 a c cs h1 (wsL I pl dl wl rl ul ds nls (fun j => if j = k then (I k).pl (q k + 1) else p j) q) → Q .none h1) : sp_Decider_told [.ref (ds k), .bool (bit (I k).v x)] hh Q := by
  obtain ⟨o, e1, _⟩ := S k hk
  have ew := ws_d I pl dl wl rl ul ds nls p q hk
  refine ⟨ds k, nls k, (I k).vs, (I k).ns, p k, _, rfl, L.get _ ew, L.get _ (ws_n I pl dl wl rl ul ds nls p q hk), by rw [e1]; exact o.pl_lt _, ?_⟩
  obtain ⟨y, e2, _, e3⟩ := o.step (List.getElem?_eq_some_iff.mp hx).1
  rw [hx] at e2
  cases e2
  rw [e1, e3]
  have L2 := L.set _ ew (decO (nls k) ((I k).pl (q k + 1)))
  rw [ws_dset I pl dl wl rl ul ds nls p q _ hk] at L2
  exact z _ L2
theorem law_13 {x nl : Addr} {ws : List (Addr × MO)} (qq : ∀ h, Q (.bool true) h) (S : Std I p q) (ew : ws = (nl, .lst (rowsD (I 0).vs (I 0).ns)) :: (x, decO nl ((I 0).pl 0)) :: wsL I pl dl wl rl ul ds nls p q) (L : LV h0 a c cs hh ws) :
    rd_law_13 sp__law_begin sp__law_made sp__law_draw sp__law_way sp_Decider___init__ sp__law_all_there sp__law_pick sp_Decider_told sp__law_is_there sp_decide (sp__law_same 5) sp__law_rising (endN Q) [s0, some (.ref a), s2, s3, some (.ref ul), s5, some (.ref rl), some (.ref wl), some (.ref dl), some (.ref pl), s10, s11, s12, some (.ref x), s14, s15, s16] hh := by
  subst ew
  unfold rd_law_13
  walk_at "e0"
  rw [L.get 10 rfl]
  walk_at "e0"
  rw [show r3 (fun k => (I k).way) = (I 0).way :: [(I 1).way, (I 2).way] from rfl, atI_z]
  walk_at "e0"
  refine ⟨_, _, _, rfl, (S 0 (by decide)).1.there (i := 0) (L.get 1 rfl) (L.get 0 rfl) (Nat.zero_le _), ?_⟩
  walk_at "e0"
  rw [if_neg (by decide)]
  refine S.all L (fun y hy => List.mem_cons_of_mem _ (List.mem_cons_of_mem _ hy)) ?_
  walk_at "e0"
  rw [if_neg (by decide), e_next]
  exact law_14 qq (fun k hk => (S k hk).1) (L.get 12 rfl) (L.get 11 rfl) (L.get 10 rfl)
theorem law_11 (qq : ∀ h, Q (.bool true) h) (S : Std I p q) (L : LV h0 a c cs hh (wsL I pl dl wl rl ul ds nls p q)) :
    rd_law_11 sp__law_begin sp__law_made sp__law_draw sp__law_way sp_Decider___init__ sp__law_all_there sp__law_pick sp_Decider_told sp__law_is_there sp_decide (sp__law_same 5) sp__law_rising (endN Q) [s0, some (.ref a), s2, s3, some (.ref ul), s5, some (.ref rl), some (.ref wl), some (.ref dl), some (.ref pl), s10, s11, s12, s13, s14, s15, s16] hh := by
  unfold rd_law_11
  walk_at "e0"
  refine S.all L (fun y hy => hy) ?_
  walk_at "e0"
  rw [if_neg (by decide), e_next]
  unfold rd_law_12 dMake
  walk_at "e0"
  rw [L.get 10 rfl]
  walk_at "e0"
  rw [show r3 (fun k => (I k).tab) = (I 0).tab :: [(I 1).tab, (I 2).tab] from rfl, atI_z]
  walk_at "e0"
  refine L.make (Q := fun d h2 => rd_law_13 sp__law_begin sp__law_made sp__law_draw sp__law_way sp_Decider___init__ sp__law_all_there sp__law_pick sp_Decider_told sp__law_is_there sp_decide (sp__law_same 5) sp__law_rising (endN Q) [s0, some (.ref a), s2, s3, some (.ref ul), s5, some (.ref rl), some (.ref wl), some (.ref dl), some (.ref pl), s10, s11, s12, some d, s14, s15, s16] h2) (S 0 (by decide)).1 fun x nl h1 L1 => ?_
  exact law_13 qq S rfl L1
theorem law_10 (qq : ∀ h, Q (.bool true) h) (S : Std I p q) (hq : ∀ k, k < 3 → q k = (I k).L.length) (L : LV h0 a c cs hh (wsL I pl dl wl rl ul ds nls p q)) :
    rd_law_10 sp__law_begin sp__law_made sp__law_draw sp__law_way sp_Decider___init__ sp__law_all_there sp__law_pick sp_Decider_told sp__law_is_there sp_decide (sp__law_same 5) sp__law_rising (endN Q) [s0, some (.ref a), s2, s3, some (.ref ul), s5, some (.ref rl), some (.ref wl), some (.ref dl), some (.ref pl), s10, s11, s12, s13, s14, s15, s16] hh := by
  unfold rd_law_10
  walk_at "e0"
  refine ⟨by decide, ?_⟩
  refine ⟨fun i σ h2 => LV h0 a c cs h2 (wsL I pl dl wl rl ul ds nls p q) ∧ ∃ y11, σ = [s0, some (.ref a), s2, s3, some (.ref ul), s5, some (.ref rl), some (.ref wl), some (.ref dl), some (.ref pl), s10, y11, s12, s13, s14, s15, s16], Lw.of ⟨L, _, rfl⟩, fun _ _ _ _ => trivial, ?_, ?_⟩
  · rintro i x σ h2 hx ⟨L, y11, rfl⟩
    obtain ⟨hi, rfl⟩ := rgT hx
    walk_at "e0"
    unfold rd_law_b3 dMeth
    walk_at "e0"
    rw [L.get 1 rfl]
    walk_at "e0"
    rw [atI_of rfl (r3_at hi)]
    refine ⟨ds i, _, _, _, rfl, L.get _ (ws_d I pl dl wl rl ul ds nls p q hi), rfl, List.mem_singleton.mpr rfl, ?_⟩
    walk_at "e0"
    refine L.draw (by decide) (by decide) fun r h3 r0 r1 L3 => ?_
    walk_at "e0"
    refine S.told_leaf L3 hi (hq i hi) ?_
    walk_at "e0"
    rw [if_neg (by decide), e_next]
    exact Lw.of ⟨L3, _, rfl⟩
  · rintro σ h2 ⟨L, y11, rfl⟩
    exact law_11 qq S L
/-- the others are told too where they have come to the end -/
theorem loop_2 {N : Nd} (S : Std I p q) (L : LV h0 a c cs hh (wsL I pl dl wl rl ul ds nls p q)) (z : ∀ h2 y12, LV h0 a c cs h2 (wsL I pl dl wl rl ul ds nls p q) → N.nx [s0, some (.ref a), s2, s3, some (.ref ul), s5, some (.ref rl), some (.ref wl), some (.ref dl), some (.ref pl), s10, s11, y12, s13, s14, s15, s16] h2) :
    rd_law_b1_4 sp__law_begin sp__law_made sp__law_draw sp__law_way sp_Decider___init__ sp__law_all_there sp__law_pick sp_Decider_told sp__law_is_there sp_decide (sp__law_same 5) sp__law_rising N [s0, some (.ref a), s2, s3, some (.ref ul), s5, some (.ref rl), some (.ref wl), some (.ref dl), some (.ref pl), s10, s11, s12, s13, s14, s15, s16] hh := by
  unfold rd_law_b1_4
  walk_at "e0"
  refine ⟨by decide, ?_⟩
  refine ⟨fun i σ h2 => LV h0 a c cs h2 (wsL I pl dl wl rl ul ds nls p q) ∧ ∃ y12, σ = [s0, some (.ref a), s2, s3, some (.ref ul), s5, some (.ref rl), some (.ref wl), some (.ref dl), some (.ref pl), s10, s11, y12, s13, s14, s15, s16], Lw.of ⟨L, _, rfl⟩, fun _ _ _ _ => trivial, ?_, ?_⟩
  · rintro i x σ h2 hx ⟨L, y12, rfl⟩
    obtain ⟨hi, rfl⟩ := rgT hx
    walk_at "e0"
    unfold rd_law_b2 dMeth
    walk_at "e0"
    rw [L.get 0 rfl]
    walk_at "e0"
    rw [atI_of rfl (r3_at hi)]
    walk_at "e0"
    rw [L.get 8 rfl]
    walk_at "e0"
    rw [atI_of rfl (r3_at hi), v_atK, way_1]
    walk_at "e0"
    rw [nats_len]
    by_cases e : q i = (I i).L.length
    · rw [if_pos (by simp [e])]
      rw [L.get 1 rfl]
      walk_at "e0"
      rw [atI_of rfl (r3_at hi)]
      refine ⟨ds i, _, _, _, rfl, L.get _ (ws_d I pl dl wl rl ul ds nls p q hi), rfl, List.mem_singleton.mpr rfl, ?_⟩
      walk_at "e0"
      refine L.draw (by decide) (by decide) fun r h3 r0 r1 L3 => ?_
      walk_at "e0"
      refine S.told_leaf L3 hi e ?_
      walk_at "e0"
      rw [if_neg (by decide), e_next]
      exact Lw.of ⟨L3, _, rfl⟩
    · rw [if_neg (by simp; omega), e_next]
      exact Lw.of ⟨L, _, rfl⟩
  · rintro σ h2 ⟨L, y12, rfl⟩
    exact z _ _ L
theorem ixN3 : ∀ {k : Nat}, k < 3 → ixN 3 (k : Int) = some k
  | 0, _ => by decide
  | 1, _ => by decide
  | 2, _ => by decide
  | k + 3, h => by omega
theorem Std.up {k : Nat} (S : Std I p q) (hk : k < 3) (hq : q k < (I k).L.length) : Std I (fun j => if j = k then (I k).pl (q k + 1) else p j) (fun j => if j = k then q k + 1 else q j) := fun j hj => by
  obtain ⟨o, e1, e2⟩ := S j hj
  by_cases e : j = k
  · subst e
    simp only [if_true]
    exact ⟨o, trivial, hq⟩
  · simp only [if_neg e]
    exact ⟨o, e1, e2⟩
theorem law_b1 {N : Nd} (S : Std I p q) (L : LV h0 a c cs hh (wsL I pl dl wl rl ul ds nls p q)) (lt : q 0 + q 1 + q 2 < (I 0).L.length + (I 1).L.length + (I 2).L.length)
    (z : ∀ h2 p' q' y11 y12, Std I p' q' → q' 0 + q' 1 + q' 2 = q 0 + q 1 + q 2 + 1 → LV h0 a c cs h2 (wsL I pl dl wl rl ul ds nls p' q') → N.nx [s0, some (.ref a), s2, s3, some (.ref ul), s5, some (.ref rl), some (.ref wl), some (.ref dl), some (.ref pl), s10, y11, y12, s13, s14, s15, s16] h2) :
    rd_law_b1 sp__law_begin sp__law_made sp__law_draw sp__law_way sp_Decider___init__ sp__law_all_there sp__law_pick sp_Decider_told sp__law_is_there sp_decide (sp__law_same 5) sp__law_rising N [s0, some (.ref a), s2, s3, some (.ref ul), s5, some (.ref rl), some (.ref wl), some (.ref dl), some (.ref pl), s10, s11, s12, s13, s14, s15, s16] hh := by
  unfold rd_law_b1
  walk_at "e0"
  refine S.all L (fun y hy => hy) ?_
  walk_at "e0"
  rw [if_neg (by decide), e_next]
  unfold rd_law_b1_1
  walk_at "e0"
  refine ⟨by decide, ?_⟩
  refine lcT_tf (List.range 3) (fun (k : Nat) => .int k) (fun (k : Nat) => .int k) (fun k => decide (q k < (I k).L.length)) (rgD_0 3) (by decide) trivial (fun k hk Q' R h1 h2 => ?_) fun l nl => ?_
  · have hk := List.mem_range.mp hk
    walk_at "e0"
    rw [L.get 0 rfl]
    walk_at "e0"
    rw [atI_of rfl (r3_at hk)]
    walk_at "e0"
    rw [L.get 8 rfl]
    walk_at "e0"
    rw [atI_of rfl (r3_at hk), v_atK, way_1]
    walk_at "e0"
    rw [nats_len]
    by_cases e : q k < (I k).L.length
    · rw [if_pos (by simp [e])]
      exact h1 (by simp [e]) _ le.refl
    · rw [if_neg (by simp; omega)]
      exact h2 (by simp; omega) _ le.refl
  · generalize el : up hh l _ = h1
    have L1 := L.newE nl el
    have ll := Nat.le_trans (List.length_filter_le (fun k => decide (q k < (I k).L.length)) (List.range 3)) (show _ ≤ 3 from by decide)
    refine L1.pick (L1.get 0 rfl) (L.ne nl) (fun e => ?_) (by rw [List.length_map]; omega) fun x hx h2 L2 => ?_
    · have e := List.map_eq_nil_iff.mp e
      have no : ∀ k, k < 3 → ¬ q k < (I k).L.length := fun k hk z => by
        have : k ∈ (List.range 3).filter fun k => decide (q k < (I k).L.length) := List.mem_filter.mpr ⟨List.mem_range.mpr hk, decide_eq_true z⟩
        rw [e] at this; cases this
      have n0 := no 0 (by decide)
      have n1 := no 1 (by decide)
      have n2 := no 2 (by decide)
      omega
    · obtain ⟨k, hk, rfl⟩ := List.mem_map.mp hx
      obtain ⟨hk, hq⟩ := List.mem_filter.mp hk
      have hk := List.mem_range.mp hk
      have hq := of_decide_eq_true hq
      have L2 := L2.tl
      obtain ⟨o, e1, e2⟩ := S k hk
      obtain ⟨y, ey, hy, _⟩ := o.step hq
      walk_at "e0"
      unfold rd_law_b1_2 dMeth
      walk_at "e0"
      rw [L2.get 1 rfl]
      walk_at "e0"
      rw [atI_of rfl (r3_at hk)]
      refine ⟨ds k, _, _, _, rfl, L2.get _ (ws_d I pl dl wl rl ul ds nls p q hk), rfl, List.mem_singleton.mpr rfl, ?_⟩
      walk_at "e0"
      rw [L2.get 9 rfl]
      walk_at "e0"
      rw [atI_of rfl (r3_at hk)]
      walk_at "e0"
      rw [L2.get 8 rfl]
      walk_at "e0"
      rw [atI_of rfl (r3_at hk), v_atK, way_1]
      walk_at "e0"
      rw [L2.get 0 rfl]
      walk_at "e0"
      rw [atI_of rfl (r3_at hk)]
      walk_at "e0"
      rw [atI_of rfl (nats_get ey), v_atK, ixV hy]
      walk_at "e0"
      refine S.told_step L2 hk ey fun h3 L3 => ?_
      walk_at "e0"
      rw [if_neg (by decide), e_next]
      unfold rd_law_b1_3
      walk_at "e0"
      rw [L3.get 0 rfl]
      walk_at "e0"
      rw [atI_of rfl (r3_at hk)]
      walk_at "e0"
      refine ⟨Int.natCast_nonneg _, ?_⟩
      rw [L3.get 0 rfl, v_setO, v_setL]
      have e3 : ixN (r3 fun k => D.int (q k : Nat)).length (k : Int) = some k := ixN3 hk
      have ec : ((q k : Nat) : Int) + 1 = ((q k + 1 : Nat) : Int) := by omega
      rw [e3, v_setK, ec]
      have L4 := L3.set 0 rfl (.lst ((r3 fun k => .int (q k : Nat)).set k (.int ((q k + 1 : Nat) : Int))))
      rw [ws_pset I pl dl wl rl ul ds nls _ q _ hk] at L4
      refine loop_2 (S := S.up hk hq) (L := L4) (fun h5 y12 L5 => z _ _ _ _ _ (S.up hk hq) ?_ L5)
      match k, hk with
      | 0, _ => simp; omega
      | 1, _ => simp; omega
      | 2, _ => simp; omega
end
end DL
namespace DL
open PySem PySem.Spec PyProof.Rows L2
local macro_rules | `(tactic| walk_at "ev") => `(tactic| try simp only [e_seq, e_next, e_brk, e_cnt, e_drop, e_ret, e_retN, e_ifS, e_asg, e_gN, e_gSb, e_gTp, e_gCn, e_gNl, e_var, e_varK, e_nth0, e_nthS, e_put0, e_putS, e_c, e_op, e_un, e_call, e_nil, e_cons, e_tup, e_lst, e_test, e_asB, e_tru, e_andT, e_orT, e_notT, e_andV, e_orV, e_notV, e_if, e_aug, e_augS, e_sl, e_part, e_partK, e_noPart, e_bm0, e_bm, e_join, e_yes, e_wipe0, e_wipeS, e_lc, e_for, v_add, v_addS, v_addT, v_iadd, v_sub, v_mul, v_fdiv, v_mod, v_pow, v_shl, v_shr, v_neg, v_lt, v_le, v_gt, v_ge, v_eqI, v_neI, v_eqS, v_neS, v_inS, v_ninS, v_inT, v_ninT, v_inR, v_ninR, v_inSeq, v_seqO, v_seqR, v_seqT, v_seqL, v_ixR, v_ixT, v_ixL, v_ixS, v_atK, v_atSK, v_get, v_getL, v_getK, v_set, v_setL, v_setK, v_on1, v_on2, v_lenR, v_lenT, v_lenL, v_lenS, v_seqK, v_tuple, v_list, v_abs, v_intI, v_intB, v_okL, v_isLst, v_app, v_lstK, v_slS, v_slT, v_join, v_is, v_isnot, v_max, v_min, v_iSeq, v_srcT, v_srcL, v_srcS, v_srcR, v_srcO, v_iRg1, v_rg1, v_truN, v_truB, v_truI, v_truS, v_truR, v_truT, v_truRol, v_truL, v_inRol, v_ninRol, v_inO, v_inOd, v_inDic, v_ixO, v_ixOd, v_ixSeq, v_ixDic, v_dgetK, v_ixStr, v_getO, v_getOd, v_setO, v_setOd, v_setDic, v_lenO, v_lenOd, e_dic0, e_disp, e_pairs0, e_pairsS, e_chain, v_bits, v_iRg3, v_rg3, v_iRg2, v_rg2, v_iEn, v_enT, v_enR, v_enO, v_iZp, v_zpT, v_zpR, v_zpO, v_repr, v_strI, v_strS, v_addR, v_and, v_slR, v_slL, v_ltS, v_srtT, v_srtR, v_srtO, v_srtD, v_revR, v_revT, v_isB, v_iZs, v_zsT, e_split, v_split, v_words, v_index, v_eqIS, v_neIS, v_eqB, v_neB])
local macro_rules | `(tactic| walk_at "e0") => `(tactic| try simp only [e_seq, e_brk, e_cnt, e_drop, e_ret, e_retN, e_ifS, e_asg, e_gN, e_gSb, e_gTp, e_gCn, e_gNl, e_var, e_varK, e_nth0, e_nthS, e_put0, e_putS, e_c, e_op, e_un, e_call, e_nil, e_cons, e_tup, e_lst, e_test, e_asB, e_tru, e_andT, e_orT, e_notT, e_andV, e_orV, e_notV, e_if, e_aug, e_augS, e_sl, e_part, e_partK, e_noPart, e_bm0, e_bm, e_join, e_yes, e_wipe0, e_wipeS, e_lc, e_for, v_add, v_addS, v_addT, v_iadd, v_sub, v_mul, v_fdiv, v_mod, v_pow, v_shl, v_shr, v_neg, v_lt, v_le, v_gt, v_ge, v_eqI, v_neI, v_eqS, v_neS, v_inS, v_ninS, v_inT, v_ninT, v_inR, v_ninR, v_inSeq, v_seqO, v_seqR, v_seqT, v_seqL, v_ixR, v_ixT, v_ixL, v_ixS, v_atK, v_atSK, v_get, v_getL, v_getK, v_set, v_setL, v_setK, v_on1, v_on2, v_lenR, v_lenT, v_lenL, v_lenS, v_seqK, v_tuple, v_list, v_abs, v_intI, v_intB, v_okL, v_isLst, v_app, v_lstK, v_slS, v_slT, v_join, v_is, v_isnot, v_max, v_min, v_iSeq, v_srcT, v_srcL, v_srcS, v_srcR, v_srcO, v_iRg1, v_rg1, v_truN, v_truB, v_truI, v_truS, v_truR, v_truT, v_truRol, v_truL, v_inRol, v_ninRol, v_inO, v_inOd, v_inDic, v_ixO, v_ixOd, v_ixSeq, v_ixDic, v_dgetK, v_ixStr, v_getO, v_getOd, v_setO, v_setOd, v_setDic, v_lenO, v_lenOd, e_dic0, e_disp, e_pairs0, e_pairsS, e_chain, v_bits, v_iRg3, v_rg3, v_iRg2, v_rg2, v_iEn, v_enT, v_enR, v_enO, v_iZp, v_zpT, v_zpR, v_zpO, v_repr, v_strI, v_strS, v_addR, v_and, v_slR, v_slL, v_ltS, v_srtT, v_srtR, v_srtO, v_srtD, v_revR, v_revT, v_isB, v_iZs, v_zsT, v_eqIS, v_neIS, v_eqB, v_neB])
open T50
def tri {α : Type} (x y z : α) : Nat → α
  | 0 => x
  | 1 => y
  | _ => z
section
variable {I : Nat → It} {pl dl wl rl ul a c : Addr} {ds nls : Nat → Addr} {p q : Nat → Nat} {h0 hh : MH} {cs : List Int} {Q : KD} {s0 s2 s3 s5 s9 s10 s11 s12 s13 s14 s15 s16 : Option D}
theorem law_9 (qq : ∀ h, Q (.bool true) h) (O : ∀ k, k < 3 → (I k).Ok) (L : LV h0 a c cs hh (wsL I pl dl wl rl ul ds nls (fun k => (I k).pl 0) fun _ => 0)) :
    rd_law_9 sp__law_begin sp__law_made sp__law_draw sp__law_way sp_Decider___init__ sp__law_all_there sp__law_pick sp_Decider_told sp__law_is_there sp_decide (sp__law_same 5) sp__law_rising (endN Q) [s0, some (.ref a), s2, s3, some (.ref ul), s5, some (.ref rl), some (.ref wl), some (.ref dl), some (.ref pl), s10, s11, s12, s13, s14, s15, s16] hh := by
  unfold rd_law_9
  walk_at "e0"
  rw [L.get 8 rfl]
  walk_at "e0"
  refine lcT_t (List.range 3) (fun k => (I k).way) (fun k => .int ((I k).L.length : Nat)) (r3_map _) (by decide) (L.get 8 rfl) (fun k hk Q' hQ => ?_) fun l nl => ?_
  · walk_at "e0"
    rw [way_1]
    walk_at "e0"
    rw [nats_len]
    exact hQ _ le.refl
  · generalize el : up hh l _ = h1
    have L1 := L.newE nl el
    have e1 : h1 l = some (.lst (((List.range 3).map fun k => (((I k).L.length : Nat) : Int)).map D.int)) := by rw [List.map_map]; exact L1.get 0 rfl
    walk_at "e0"
    refine v_sum e1 ?_
    have es : ((List.range 3).map fun k => (((I k).L.length : Nat) : Int)).sum = (((I 0).L.length + (I 1).L.length + (I 2).L.length : Nat) : Int) := by
      show (((I 0).L.length : Nat) : Int) + ((((I 1).L.length : Nat) : Int) + ((((I 2).L.length : Nat) : Int) + 0)) = _
      omega
    rw [es]
    have l0 := (O 0 (by decide)).L_len
    have l1 := (O 1 (by decide)).L_len
    have l2 := (O 2 (by decide)).L_len
    walk_at "e0"
    refine ⟨bnd62 (by omega), ?_⟩
    refine ⟨fun i σ h2 => ∃ p q y10 y11 y12, Std I p q ∧ q 0 + q 1 + q 2 = i ∧ LV h0 a c cs h2 (wsL I pl dl wl rl ul ds nls p q) ∧ σ = [s0, some (.ref a), s2, s3, some (.ref ul), s5, some (.ref rl), some (.ref wl), some (.ref dl), some (.ref pl), y10, y11, y12, s13, s14, s15, s16], Lw.of ⟨_, _, _, _, _, fun k hk => ⟨O k hk, rfl, Nat.zero_le _⟩, rfl, L1.tl, rfl⟩, fun _ _ _ _ => trivial, ?_, ?_⟩
    · rintro i x σ h2 hx ⟨p, q, y10, y11, y12, S, hs, L, rfl⟩
      obtain ⟨hi, rfl⟩ := rg_at hx
      walk_at "e0"
      refine law_b1 S L (by omega) fun h3 p' q' z11 z12 S' hs' L' => ?_
      exact Lw.of ⟨p', q', _, _, _, S', by omega, L', rfl⟩
    · rintro σ h2 ⟨p, q, y10, y11, y12, S, hs, L, rfl⟩
      rw [rg_len] at hs
      have k0 := (S 0 (by decide)).2.2
      have k1 := (S 1 (by decide)).2.2
      have k2 := (S 2 (by decide)).2.2
      refine law_10 qq S (fun k hk => ?_) L
      match k, hk with
      | 0, _ => omega
      | 1, _ => omega
      | 2, _ => omega
theorem law_8 (qq : ∀ h, Q (.bool true) h) (O : ∀ k, k < 3 → (I k).Ok) (L : LV h0 a c cs hh ((wsL I pl dl wl rl ul ds nls (fun k => (I k).pl 0) fun _ => 0).tail)) :
    rd_law_8 sp__law_begin sp__law_made sp__law_draw sp__law_way sp_Decider___init__ sp__law_all_there sp__law_pick sp_Decider_told sp__law_is_there sp_decide (sp__law_same 5) sp__law_rising (endN Q) [s0, some (.ref a), s2, s3, some (.ref ul), s5, some (.ref rl), some (.ref wl), some (.ref dl), s9, s10, s11, s12, s13, s14, s15, s16] hh := by
  unfold rd_law_8
  walk_at "e0"
  refine ⟨by show 3 ≤ sizeLine; decide, fun pl npl => ?_⟩
  exact law_9 (pl := pl) qq O (L.new npl (.lst [.int 0, .int 0, .int 0]))
def mks (I : Nat → It) (M : List (Addr × Addr)) : List (Addr × MO) := M.zipIdx.flatMap fun x => [(x.1.1, .lst (rowsD (I x.2).vs (I x.2).ns)), (x.1.2, decO x.1.1 ((I x.2).pl 0))]
theorem mks_add (M : List (Addr × Addr)) (m : Addr × Addr) : mks I (M ++ [m]) = mks I M ++ [(m.1, .lst (rowsD (I M.length).vs (I M.length).ns)), (m.2, decO m.1 ((I M.length).pl 0))] := by
  unfold mks
  rw [List.zipIdx_append, List.flatMap_append]
  simp
theorem law_7 (qq : ∀ h, Q (.bool true) h) (O : ∀ k, k < 3 → (I k).Ok) {s8 : Option D} (L : LV h0 a c cs hh [(wl, .lst (r3 fun k => (I k).way)), (rl, .lst (r3 fun k => vD (I k).v)), (ul, .lst (r3 fun k => (I k).tab))]) :
    rd_law_7 sp__law_begin sp__law_made sp__law_draw sp__law_way sp_Decider___init__ sp__law_all_there sp__law_pick sp_Decider_told sp__law_is_there sp_decide (sp__law_same 5) sp__law_rising (endN Q) [s0, some (.ref a), s2, s3, some (.ref ul), s5, some (.ref rl), some (.ref wl), s8, s9, s10, s11, s12, s13, s14, s15, s16] hh := by
  unfold rd_law_7 dMake
  walk_at "e0"
  refine ⟨by decide, ?_⟩
  refine ⟨by decide, fun i acc h1 => ∃ M : List (Addr × Addr), M.length = i ∧ acc = M.map (fun m => D.ref m.2) ∧ LV h0 a c cs h1 (mks I M ++ [(wl, .lst (r3 fun k => (I k).way)), (rl, .lst (r3 fun k => vD (I k).v)), (ul, .lst (r3 fun k => (I k).tab))]), ⟨hh, le.refl, [], rfl, rfl, L⟩, fun _ _ _ _ => trivial, ?_, ?_⟩
  · rintro i x acc h1 hx ⟨M, hM, rfl, L⟩
    obtain ⟨hi, rfl⟩ := rgT hx
    walk_at "e0"
    rw [L.mem (l := ul) (x := .lst (r3 fun k => (I k).tab)) (List.mem_append_right _ (by simp))]
    walk_at "e0"
    rw [if_pos trivial]
    walk_at "e0"
    rw [atI_of rfl (r3_at hi), v_atK]
    refine L.make (Q := fun d h2 => ∃ h5, le h5 h2 ∧ ∃ N : List (Addr × Addr), N.length = i + 1 ∧ M.map (fun m => D.ref m.2) ++ [d] = N.map (fun m => D.ref m.2) ∧ LV h0 a c cs h5 (mks I N ++ [(wl, .lst (r3 fun k => (I k).way)), (rl, .lst (r3 fun k => vD (I k).v)), (ul, .lst (r3 fun k => (I k).tab))])) (O i hi) fun x nl h2 L2 => ?_
    · refine ⟨_, le.refl, M ++ [(nl, x)], by rw [List.length_append, hM]; rfl, by rw [List.map_append]; rfl, L2.perm ?_⟩
      rw [mks_add, hM]
      exact (List.perm_append_comm (l₁ := [(nl, MO.lst (rowsD (I i).vs (I i).ns)), (x, decO nl ((I i).pl 0))]) (l₂ := mks I M)).append_right _
  · rintro acc h1 ⟨M, hM, rfl, L⟩ dl ndl
    have hM : M.length = 3 := hM
    match M, hM, L with
    | [m0, m1, m2], _, L =>
      have L1 := L.new ndl (.lst (r3 fun k => .ref (tri m0.2 m1.2 m2.2 k)))
      exact law_8 (dl := dl) (pl := dl) (ds := tri m0.2 m1.2 m2.2) (nls := tri m0.1 m1.1 m2.1) qq O L1
theorem law_6 (qq : ∀ h, Q (.bool true) h) (O : ∀ k, k < 3 → (I k).Ok) {s7 s8 : Option D} (L : LV h0 a c cs hh [(rl, .lst (r3 fun k => vD (I k).v)), (ul, .lst (r3 fun k => (I k).tab))]) :
    rd_law_6 sp__law_begin sp__law_made sp__law_draw sp__law_way sp_Decider___init__ sp__law_all_there sp__law_pick sp_Decider_told sp__law_is_there sp_decide (sp__law_same 5) sp__law_rising (endN Q) [s0, some (.ref a), s2, s3, some (.ref ul), s5, some (.ref rl), s7, s8, s9, s10, s11, s12, s13, s14, s15, s16] hh := by
  unfold rd_law_6
  walk_at "e0"
  refine ⟨by decide, ?_⟩
  refine lcT_t (List.range 3) (fun (k : Nat) => .int k) (fun k => (I k).way) (rgD_0 3) (by decide) trivial (fun k hk Q' hQ => ?_) fun wl nwl => ?_
  · have hk := List.mem_range.mp hk
    have o := O k hk
    have := o.le
    have := o.len
    walk_at "e0"
    rw [L.get 1 rfl]
    walk_at "e0"
    rw [atI_of rfl (r3_at hk)]
    walk_at "e0"
    rw [L.get 0 rfl]
    walk_at "e0"
    rw [atI_of rfl (r3_at hk)]
    exact ⟨(I k).vs, (I k).n, (I k).ns, (I k).v, rfl, o.ord, o.hv, by omega, by omega, hQ _ le.refl⟩
  · exact law_7 (wl := wl) qq O (L.new nwl _)
theorem law_5 {A B : List D × List Nod × Nat} {sl : Addr} {s6 s7 s8 : Option D} (qq : ∀ h, Q (.bool true) h) (O : ∀ k v, k < 3 → v.length = (tri A B A k).2.2 → It.Ok ⟨(tri A B A k).1, (tri A B A k).2.1, (tri A B A k).2.2, v⟩)
    (L : LV h0 a c cs hh [(sl, .lst (r3 fun k => .int ((tri A B A k).2.2 : Nat))), (ul, .lst (r3 fun k => tabD (tri A B A k).1 (tri A B A k).2.1))]) :
    rd_law_5 sp__law_begin sp__law_made sp__law_draw sp__law_way sp_Decider___init__ sp__law_all_there sp__law_pick sp_Decider_told sp__law_is_there sp_decide (sp__law_same 5) sp__law_rising (endN Q) [s0, some (.ref a), s2, s3, some (.ref ul), some (.ref sl), s6, s7, s8, s9, s10, s11, s12, s13, s14, s15, s16] hh := by
  unfold rd_law_5
  walk_at "e0"
  rw [L.get 0 rfl]
  walk_at "e0"
  refine lcT_each L (List.range 3) (fun k => .int ((tri A B A k).2.2 : Nat)) (fun k z => ∃ v : List Bool, z = vD v ∧ v.length = (tri A B A k).2.2) (r3_map _) (by decide) (fun h1 L1 => L1.get 0 rfl) (fun k hk h1 Q' L1 hQ => ?_) fun acc rl h1 pr _ L1 => ?_
  · have hk := List.mem_range.mp hk
    have hn := (O k (List.replicate (tri A B A k).2.2 false) hk (by simp)).le
    have hn : (tri A B A k).2.2 ≤ 7 := hn
    walk_at "e0"
    refine ⟨bnd62 (by omega), ?_⟩
    refine lcT_each L1 (List.range (tri A B A k).2.2) (fun (k : Nat) => .int k) (fun _ z => ∃ b : Bool, z = .bool b) (rgD_0 _) (by rw [List.length_range]; omega) (fun _ _ => trivial) (fun j hj h2 Q2 L2 hQ2 => ?_) fun acc l h2 pr _ L2 => ?_
    · walk_at "e0"
      refine L2.draw (by decide) (by decide) fun r h3 r0 r1 L3 => ?_
      walk_at "e0"
      exact hQ2 _ _ ⟨_, rfl⟩ L3
    · walk_at "e0"
      rw [L2.get 0 rfl]
      walk_at "e0"
      have ex : ∀ (ys : List Nat) (acc : List D), Paired (fun _ z => ∃ b : Bool, z = .bool b) ys acc → ∃ v : List Bool, acc = v.map D.bool ∧ v.length = ys.length := by
        intro ys
        induction ys with
        | nil => intro acc pr; cases pr; exact ⟨[], rfl, rfl⟩
        | cons y ys ih =>
          intro acc pr
          cases pr with
          | cons h t =>
            obtain ⟨b, rfl⟩ := h
            obtain ⟨v, rfl, e⟩ := ih _ t
            exact ⟨b :: v, rfl, by simp [e]⟩
      obtain ⟨v, rfl, ev⟩ := ex _ _ pr
      exact hQ _ _ ⟨v, rfl, by rw [ev, List.length_range]⟩ L2.tl
  · cases pr with
    | cons g0 t => cases t with
      | cons g1 t => cases t with
        | cons g2 t =>
          cases t
          obtain ⟨v0, rfl, e0⟩ := g0
          obtain ⟨v1, rfl, e1⟩ := g1
          obtain ⟨v2, rfl, e2⟩ := g2
          have O' : ∀ k, k < 3 → It.Ok (tri (⟨A.1, A.2.1, A.2.2, v0⟩ : It) ⟨B.1, B.2.1, B.2.2, v1⟩ ⟨A.1, A.2.1, A.2.2, v2⟩ k)
            | 0, _ => O 0 v0 (by decide) e0
            | 1, _ => O 1 v1 (by decide) e1
            | 2, _ => O 2 v2 (by decide) e2
            | k + 3, h => by omega
          exact law_6 (rl := rl) (I := tri (⟨A.1, A.2.1, A.2.2, v0⟩ : It) ⟨B.1, B.2.1, B.2.2, v1⟩ ⟨A.1, A.2.1, A.2.2, v2⟩) qq O' L1.kp
end
structure MdOk (vs : List D) (ns : List Nod) (n : Nat) : Prop where
  ord : Ord n ns
  val : ValsOk vs
  lf : LfOk vs ns
  le : n ≤ 7
  len : ns.length ≤ 1000
theorem md_ok {n : Nat} {vs : List D} {row : List Nat} {ns : List Nod} (hn : n ≤ 7) (v : ValsOk vs) (t : TabOk n vs row ns) : MdOk vs ns n := by
  have p : 2 ^ (n + 1) ≤ 2 ^ 8 := Nat.pow_le_pow_right (by decide) (by omega)
  have e : (2 : Nat) ^ 8 = 256 := by decide
  obtain ⟨rs, T, x, y, z⟩ := id t
  exact ⟨t.ord, v, t.lf, hn, by omega⟩
theorem len_law : ∀ ds h Q, spLaw ds h Q → ds.length = 1 := fun ds h Q ⟨_, e, _⟩ => by rw [e]; rfl
def madeD (vs : List D) (ns : List Nod) (rl vl : Addr) (n : Nat) : D := .tup [tabD vs ns, .ref rl, .int (n : Nat), .ref vl]
theorem LV.made {h0 hh : MH} {a c : Addr} {cs : List Int} {ws : List (Addr × MO)} {Q : KD} (L : LV h0 a c cs hh ws) (z : ∀ vl rl vs ns n h1, MdOk vs ns n → LV h0 a c cs h1 ws → Q (madeD vs ns rl vl n) h1) : sp__law_made [.ref a] hh Q :=
  ⟨a, c, cs, rfl, L.dr, fun vl rl o vs row n ns nv nr vr hn v hl hx t k => z vl rl vs ns n _ (md_ok hn v t) (by
    have L1 := L.drawn k
    have L2 := L1.new (p := vl) (by rw [up_ne (L.ne nv)]; exact nv) (.lst vs)
    have L3 := L2.new (p := rl) (by rw [up_ne vr.symm, up_ne (L.ne nr)]; exact nr) (.lst (natsD row))
    exact L3.tl.tl)⟩
theorem sat_law : ∀ ds h Q, spLaw ds h Q → rd_law sp__law_begin sp__law_made sp__law_draw sp__law_way sp_Decider___init__ sp__law_all_there sp__law_pick sp_Decider_told sp__law_is_there sp_decide (sp__law_same 5) sp__law_rising (endN Q) (startD 17 ds) h := by
  rintro ds h Q ⟨cs, rfl, hcs, q⟩
  show rd_law sp__law_begin sp__law_made sp__law_draw sp__law_way sp_Decider___init__ sp__law_all_there sp__law_pick sp_Decider_told sp__law_is_there sp_decide (sp__law_same 5) sp__law_rising (endN Q) [some (.rol (cs.map D.int)), none, none, none, none, none, none, none, none, none, none, none, none, none, none, none, none] h
  have qq : ∀ h, Q (.bool true) h := fun h => q h
  unfold rd_law
  walk_at "e0"
  refine ⟨cs, rfl, hcs, fun a c o na nc ac k0 => ?_⟩
  have d0 : Dr a c cs (up (up h c (.lst (cs.map D.int))) a o) := ⟨⟨o, up_same, k0⟩, by rw [up_ne ac.symm, up_same]⟩
  generalize up (up h c (.lst (cs.map D.int))) a o = h0 at d0
  have L0 := LV.start d0
  walk_at "e0"
  unfold rd_law_1
  walk_at "e0"
  refine L0.made fun vl1 rl1 vs1 ns1 n1 h1 M1 L1 => ?_
  unfold rd_law_2
  walk_at "e0"
  refine L1.made fun vl2 rl2 vs2 ns2 n2 h2 M2 L2 => ?_
  have e0 : ∀ (vs : List D) (ns : List Nod) (rl vl : Addr) (n : Nat) (h : MH) (Q : KD), ixD (madeD vs ns rl vl n) (.int 0) h Q = Q (tabD vs ns) h := fun _ _ _ _ _ _ _ => rfl
  have e2 : ∀ (vs : List D) (ns : List Nod) (rl vl : Addr) (n : Nat) (h : MH) (Q : KD), ixD (madeD vs ns rl vl n) (.int 2) h Q = Q (.int (n : Nat)) h := fun _ _ _ _ _ _ _ => rfl
  unfold rd_law_3
  walk_at "e0"
  simp only [e0]
  refine ⟨by show 3 ≤ sizeLine; decide, fun ul nul => ?_⟩
  have L3 := L2.new nul (.lst (r3 fun k => tabD (tri (vs1, ns1, n1) (vs2, ns2, n2) (vs1, ns1, n1) k).1 (tri (vs1, ns1, n1) (vs2, ns2, n2) (vs1, ns1, n1) k).2.1))
  unfold rd_law_4
  walk_at "e0"
  simp only [e2]
  refine ⟨by show 3 ≤ sizeLine; decide, fun sl nsl => ?_⟩
  have L4 := L3.new nsl (.lst (r3 fun k => .int ((tri (vs1, ns1, n1) (vs2, ns2, n2) (vs1, ns1, n1) k).2.2 : Nat)))
  refine law_5 (A := (vs1, ns1, n1)) (B := (vs2, ns2, n2)) qq ?_ L4
  have ok : ∀ {vs : List D} {ns : List Nod} {n : Nat} {v : List Bool}, MdOk vs ns n → v.length = n → It.Ok ⟨vs, ns, n, v⟩ := fun m e => ⟨m.ord, m.val, m.lf, e, m.le, m.len⟩
  intro k v hk e
  match k, hk with
  | 0, _ => exact ok M1 e
  | 1, _ => exact ok M2 e
  | 2, _ => exact ok M1 e
end DL
open PySem PySem.Spec PyProof.Rows L2 DL in
theorem DL.all_mk {l : PySem.W.OpenLaw} {w : World} {K : PySem.W.Frag} {h : Heap} {mg : Str → Option Value} {fa : Addr} (X : K.In h) (G : h.Ns mainGlobals mg) (hfa : mg "law" = some (.ref fa))
    {C0 : Addr}
    {f0 : Addr} {oc0 kV0 dc0 pm0 cd0 ct0 : Value} {od0 an0 : Option Addr} {sl0 : Array (Option Value)}
    {f1 : Addr} {oc1 kV1 dc1 pm1 cd1 ct1 : Value} {od1 an1 : Option Addr} {sl1 : Array (Option Value)}
    {f2 : Addr} {oc2 kV2 dc2 pm2 cd2 ct2 : Value} {od2 an2 : Option Addr} {sl2 : Array (Option Value)}
    {p2 : Addr} {rest2 : List Value}
    {f3 : Addr} {oc3 kV3 dc3 pm3 cd3 ct3 : Value} {od3 an3 : Option Addr} {sl3 : Array (Option Value)}
    {p3 : Addr} {rest3 : List Value}
    {f4 : Addr} {oc4 kV4 dc4 pm4 cd4 ct4 : Value} {od4 an4 : Option Addr} {sl4 : Array (Option Value)}
    {f5 : Addr} {oc5 kV5 dc5 pm5 cd5 ct5 : Value} {od5 an5 : Option Addr} {sl5 : Array (Option Value)}
    {f6 : Addr} {oc6 kV6 dc6 pm6 cd6 ct6 : Value} {od6 an6 : Option Addr} {sl6 : Array (Option Value)}
    {f7 : Addr} {oc7 kV7 dc7 pm7 cd7 ct7 : Value} {od7 an7 : Option Addr} {sl7 : Array (Option Value)}
    {f8 : Addr} {oc8 kV8 dc8 pm8 cd8 ct8 : Value} {od8 an8 : Option Addr} {sl8 : Array (Option Value)}
    {f9 : Addr} {oc9 kV9 dc9 pm9 cd9 ct9 : Value} {od9 an9 : Option Addr} {sl9 : Array (Option Value)}
    {f10 : Addr} {oc10 kV10 dc10 pm10 cd10 ct10 : Value} {od10 an10 : Option Addr} {sl10 : Array (Option Value)}
    {f11 : Addr} {oc11 kV11 dc11 pm11 cd11 ct11 : Value} {od11 an11 : Option Addr} {sl11 : Array (Option Value)}
    {f12 : Addr} {oc12 kV12 dc12 pm12 cd12 ct12 : Value} {od12 an12 : Option Addr} {sl12 : Array (Option Value)}
    {f13 : Addr} {oc13 kV13 dc13 pm13 cd13 ct13 : Value} {od13 an13 : Option Addr} {sl13 : Array (Option Value)}
    {f14 : Addr} {oc14 kV14 dc14 pm14 cd14 ct14 : Value} {od14 an14 : Option Addr} {sl14 : Array (Option Value)}
    {f15 : Addr} {oc15 kV15 dc15 pm15 cd15 ct15 : Value} {od15 an15 : Option Addr} {sl15 : Array (Option Value)}
    {f16 : Addr} {oc16 kV16 dc16 pm16 cd16 ct16 : Value} {od16 an16 : Option Addr} {sl16 : Array (Option Value)}
    {f17 : Addr} {oc17 kV17 dc17 pm17 cd17 ct17 : Value} {od17 an17 : Option Addr} {sl17 : Array (Option Value)}
    {f18 : Addr} {oc18 kV18 dc18 pm18 cd18 ct18 : Value} {od18 an18 : Option Addr} {sl18 : Array (Option Value)}
    {f19 : Addr} {oc19 kV19 dc19 pm19 cd19 ct19 : Value} {od19 an19 : Option Addr} {sl19 : Array (Option Value)}
    {f20 : Addr} {oc20 kV20 dc20 pm20 cd20 ct20 : Value} {od20 an20 : Option Addr} {sl20 : Array (Option Value)}
    {f21 : Addr} {oc21 kV21 dc21 pm21 cd21 ct21 : Value} {od21 an21 : Option Addr} {sl21 : Array (Option Value)}
    {f22 : Addr} {oc22 kV22 dc22 pm22 cd22 ct22 : Value} {od22 an22 : Option Addr} {sl22 : Array (Option Value)}
    {f23 : Addr} {oc23 kV23 dc23 pm23 cd23 ct23 : Value} {od23 an23 : Option Addr} {sl23 : Array (Option Value)}
    {f24 : Addr} {oc24 kV24 dc24 pm24 cd24 ct24 : Value} {od24 an24 : Option Addr} {sl24 : Array (Option Value)}
    {f25 : Addr} {oc25 kV25 dc25 pm25 cd25 ct25 : Value} {od25 an25 : Option Addr} {sl25 : Array (Option Value)}
    (aC0 : PySem.W.nsIn K mainGlobals "Decider" = some (some (.ref C0))) (pg0 : PySem.W.plainGet K C0 Str.empty = true) (hd0 : PySem.W.hasDictIn K C0 = true) (po0 : PySem.W.plainOver K C0 = true) (sa0 : PySem.W.findIn K (.ref C0) "__setattr__" = some (some (.builtin "object.__setattr__"))) (mk0 : PySem.W.makesIn K C0 = true) (kc0 : PySem.W.keepIn K (.ref C0) = true)
    (nf0 : PySem.W.findIn K (.ref C0) "nodes_kept" = some none)
    (nf1 : PySem.W.findIn K (.ref C0) "at_node" = some none)
    (a0 : PySem.W.nsIn K mainGlobals "decide" = some (some (.ref f0))) (l0 : K.lookup f0 = some ⟨oc0, od0, .func (PySem.W.fnOf "decide" "decide" (defArgs s_decide) (defBody s_decide) (defScope s_decide) .none kV0 dc0 pm0 an0 cd0 ct0), sl0⟩) (c0 : PySem.W.codeIn K cd0 "decide" = true) (k0 : PySem.W.keepIn K (.ref f0) = true)
    (a1 : PySem.W.findIn K (.ref C0) "__init__" = some (some (.ref f1))) (i1 : PySem.W.isFn K (.ref f1) = true) (l1 : K.lookup f1 = some ⟨oc1, od1, .func (PySem.W.fnOf "__init__" "Decider.__init__" (defArgs s_Decider___init__) (defBody s_Decider___init__) (defScope s_Decider___init__) .none kV1 dc1 pm1 an1 cd1 ct1), sl1⟩) (c1 : PySem.W.codeIn K cd1 "Decider.__init__" = true) (k1 : PySem.W.keepIn K (.ref f1) = true)
    (a2 : PySem.W.findIn K (.ref C0) "wants" = some (some (.ref p2))) (ge2 : PySem.W.specialIn K (.ref p2) "__get__" = some (some (.builtin "property.__get__"))) (tk2 : PySem.W.takesIn K (.ref p2) = some true) (rc2 : PySem.W.recIn K p2 "property" = some (.ref f2 :: rest2)) (l2 : K.lookup f2 = some ⟨oc2, od2, .func (PySem.W.fnOf "wants" "Decider.wants" (defArgs s_Decider_wants) (defBody s_Decider_wants) (defScope s_Decider_wants) .none kV2 dc2 pm2 an2 cd2 ct2), sl2⟩) (c2 : PySem.W.codeIn K cd2 "Decider.wants" = true) (k2 : PySem.W.keepIn K (.ref f2) = true)
    (a3 : PySem.W.findIn K (.ref C0) "value" = some (some (.ref p3))) (ge3 : PySem.W.specialIn K (.ref p3) "__get__" = some (some (.builtin "property.__get__"))) (tk3 : PySem.W.takesIn K (.ref p3) = some true) (rc3 : PySem.W.recIn K p3 "property" = some (.ref f3 :: rest3)) (l3 : K.lookup f3 = some ⟨oc3, od3, .func (PySem.W.fnOf "value" "Decider.value" (defArgs s_Decider_value) (defBody s_Decider_value) (defScope s_Decider_value) .none kV3 dc3 pm3 an3 cd3 ct3), sl3⟩) (c3 : PySem.W.codeIn K cd3 "Decider.value" = true) (k3 : PySem.W.keepIn K (.ref f3) = true)
    (a4 : PySem.W.findIn K (.ref C0) "told" = some (some (.ref f4))) (i4 : PySem.W.isFn K (.ref f4) = true) (l4 : K.lookup f4 = some ⟨oc4, od4, .func (PySem.W.fnOf "told" "Decider.told" (defArgs s_Decider_told) (defBody s_Decider_told) (defScope s_Decider_told) .none kV4 dc4 pm4 an4 cd4 ct4), sl4⟩) (c4 : PySem.W.codeIn K cd4 "Decider.told" = true) (k4 : PySem.W.keepIn K (.ref f4) = true)
    (a5 : PySem.W.nsIn K mainGlobals "_law_begin" = some (some (.ref f5))) (l5 : K.lookup f5 = some ⟨oc5, od5, .func (PySem.W.fnOf "_law_begin" "_law_begin" (defArgs s__law_begin) (defBody s__law_begin) (defScope s__law_begin) .none kV5 dc5 pm5 an5 cd5 ct5), sl5⟩) (c5 : PySem.W.codeIn K cd5 "_law_begin" = true) (k5 : PySem.W.keepIn K (.ref f5) = true)
    (a6 : PySem.W.nsIn K mainGlobals "_law_draw" = some (some (.ref f6))) (l6 : K.lookup f6 = some ⟨oc6, od6, .func (PySem.W.fnOf "_law_draw" "_law_draw" (defArgs s__law_draw) (defBody s__law_draw) (defScope s__law_draw) .none kV6 dc6 pm6 an6 cd6 ct6), sl6⟩) (c6 : PySem.W.codeIn K cd6 "_law_draw" = true) (k6 : PySem.W.keepIn K (.ref f6) = true)
    (a7 : PySem.W.nsIn K mainGlobals "_law_rising" = some (some (.ref f7))) (l7 : K.lookup f7 = some ⟨oc7, od7, .func (PySem.W.fnOf "_law_rising" "_law_rising" (defArgs s__law_rising) (defBody s__law_rising) (defScope s__law_rising) .none kV7 dc7 pm7 an7 cd7 ct7), sl7⟩) (c7 : PySem.W.codeIn K cd7 "_law_rising" = true) (k7 : PySem.W.keepIn K (.ref f7) = true)
    (a8 : PySem.W.nsIn K mainGlobals "_law_valuations" = some (some (.ref f8))) (l8 : K.lookup f8 = some ⟨oc8, od8, .func (PySem.W.fnOf "_law_valuations" "_law_valuations" (defArgs s__law_valuations) (defBody s__law_valuations) (defScope s__law_valuations) .none kV8 dc8 pm8 an8 cd8 ct8), sl8⟩) (c8 : PySem.W.codeIn K cd8 "_law_valuations" = true) (k8 : PySem.W.keepIn K (.ref f8) = true)
    (a9 : PySem.W.nsIn K mainGlobals "_law_shrunk" = some (some (.ref f9))) (l9 : K.lookup f9 = some ⟨oc9, od9, .func (PySem.W.fnOf "_law_shrunk" "_law_shrunk" (defArgs s__law_shrunk) (defBody s__law_shrunk) (defScope s__law_shrunk) .none kV9 dc9 pm9 an9 cd9 ct9), sl9⟩) (c9 : PySem.W.codeIn K cd9 "_law_shrunk" = true) (k9 : PySem.W.keepIn K (.ref f9) = true)
    (a10 : PySem.W.nsIn K mainGlobals "_law_agrees" = some (some (.ref f10))) (l10 : K.lookup f10 = some ⟨oc10, od10, .func (PySem.W.fnOf "_law_agrees" "_law_agrees" (defArgs s__law_agrees) (defBody s__law_agrees) (defScope s__law_agrees) .none kV10 dc10 pm10 an10 cd10 ct10), sl10⟩) (c10 : PySem.W.codeIn K cd10 "_law_agrees" = true) (k10 : PySem.W.keepIn K (.ref f10) = true)
    (a11 : PySem.W.nsIn K mainGlobals "_law_way" = some (some (.ref f11))) (l11 : K.lookup f11 = some ⟨oc11, od11, .func (PySem.W.fnOf "_law_way" "_law_way" (defArgs s__law_way) (defBody s__law_way) (defScope s__law_way) .none kV11 dc11 pm11 an11 cd11 ct11), sl11⟩) (c11 : PySem.W.codeIn K cd11 "_law_way" = true) (k11 : PySem.W.keepIn K (.ref f11) = true)
    (a12 : PySem.W.nsIn K mainGlobals "_law_pick" = some (some (.ref f12))) (l12 : K.lookup f12 = some ⟨oc12, od12, .func (PySem.W.fnOf "_law_pick" "_law_pick" (defArgs s__law_pick) (defBody s__law_pick) (defScope s__law_pick) .none kV12 dc12 pm12 an12 cd12 ct12), sl12⟩) (c12 : PySem.W.codeIn K cd12 "_law_pick" = true) (k12 : PySem.W.keepIn K (.ref f12) = true)
    (a13 : PySem.W.nsIn K mainGlobals "_law_rare" = some (some (.ref f13))) (l13 : K.lookup f13 = some ⟨oc13, od13, .func (PySem.W.fnOf "_law_rare" "_law_rare" (defArgs s__law_rare) (defBody s__law_rare) (defScope s__law_rare) .none kV13 dc13 pm13 an13 cd13 ct13), sl13⟩) (c13 : PySem.W.codeIn K cd13 "_law_rare" = true) (k13 : PySem.W.keepIn K (.ref f13) = true)
    (a14 : PySem.W.nsIn K mainGlobals "_law_shuffled" = some (some (.ref f14))) (l14 : K.lookup f14 = some ⟨oc14, od14, .func (PySem.W.fnOf "_law_shuffled" "_law_shuffled" (defArgs s__law_shuffled) (defBody s__law_shuffled) (defScope s__law_shuffled) .none kV14 dc14 pm14 an14 cd14 ct14), sl14⟩) (c14 : PySem.W.codeIn K cd14 "_law_shuffled" = true) (k14 : PySem.W.keepIn K (.ref f14) = true)
    (a15 : PySem.W.nsIn K mainGlobals "_law_pairs" = some (some (.ref f15))) (l15 : K.lookup f15 = some ⟨oc15, od15, .func (PySem.W.fnOf "_law_pairs" "_law_pairs" (defArgs s__law_pairs) (defBody s__law_pairs) (defScope s__law_pairs) .none kV15 dc15 pm15 an15 cd15 ct15), sl15⟩) (c15 : PySem.W.codeIn K cd15 "_law_pairs" = true) (k15 : PySem.W.keepIn K (.ref f15) = true)
    (a16 : PySem.W.nsIn K mainGlobals "_law_by_rules" = some (some (.ref f16))) (l16 : K.lookup f16 = some ⟨oc16, od16, .func (PySem.W.fnOf "_law_by_rules" "_law_by_rules" (defArgs s__law_by_rules) (defBody s__law_by_rules) (defScope s__law_by_rules) .none kV16 dc16 pm16 an16 cd16 ct16), sl16⟩) (c16 : PySem.W.codeIn K cd16 "_law_by_rules" = true) (k16 : PySem.W.keepIn K (.ref f16) = true)
    (a17 : PySem.W.nsIn K mainGlobals "_law_values" = some (some (.ref f17))) (l17 : K.lookup f17 = some ⟨oc17, od17, .func (PySem.W.fnOf "_law_values" "_law_values" (defArgs s__law_values) (defBody s__law_values) (defScope s__law_values) .none kV17 dc17 pm17 an17 cd17 ct17), sl17⟩) (c17 : PySem.W.codeIn K cd17 "_law_values" = true) (k17 : PySem.W.keepIn K (.ref f17) = true)
    (a18 : PySem.W.nsIn K mainGlobals "_law_row" = some (some (.ref f18))) (l18 : K.lookup f18 = some ⟨oc18, od18, .func (PySem.W.fnOf "_law_row" "_law_row" (defArgs s__law_row) (defBody s__law_row) (defScope s__law_row) .none kV18 dc18 pm18 an18 cd18 ct18), sl18⟩) (c18 : PySem.W.codeIn K cd18 "_law_row" = true) (k18 : PySem.W.keepIn K (.ref f18) = true)
    (a19 : PySem.W.nsIn K mainGlobals "_law_same" = some (some (.ref f19))) (l19 : K.lookup f19 = some ⟨oc19, od19, .func (PySem.W.fnOf "_law_same" "_law_same" (defArgs s__law_same) (defBody s__law_same) (defScope s__law_same) .none kV19 dc19 pm19 an19 cd19 ct19), sl19⟩) (c19 : PySem.W.codeIn K cd19 "_law_same" = true) (k19 : PySem.W.keepIn K (.ref f19) = true)
    (a20 : PySem.W.nsIn K mainGlobals "_law_is_there" = some (some (.ref f20))) (l20 : K.lookup f20 = some ⟨oc20, od20, .func (PySem.W.fnOf "_law_is_there" "_law_is_there" (defArgs s__law_is_there) (defBody s__law_is_there) (defScope s__law_is_there) .none kV20 dc20 pm20 an20 cd20 ct20), sl20⟩) (c20 : PySem.W.codeIn K cd20 "_law_is_there" = true) (k20 : PySem.W.keepIn K (.ref f20) = true)
    (a21 : PySem.W.nsIn K mainGlobals "_law_all_there" = some (some (.ref f21))) (l21 : K.lookup f21 = some ⟨oc21, od21, .func (PySem.W.fnOf "_law_all_there" "_law_all_there" (defArgs s__law_all_there) (defBody s__law_all_there) (defScope s__law_all_there) .none kV21 dc21 pm21 an21 cd21 ct21), sl21⟩) (c21 : PySem.W.codeIn K cd21 "_law_all_there" = true) (k21 : PySem.W.keepIn K (.ref f21) = true)
    (a22 : PySem.W.nsIn K mainGlobals "_law_put" = some (some (.ref f22))) (l22 : K.lookup f22 = some ⟨oc22, od22, .func (PySem.W.fnOf "_law_put" "_law_put" (defArgs s__law_put) (defBody s__law_put) (defScope s__law_put) .none kV22 dc22 pm22 an22 cd22 ct22), sl22⟩) (c22 : PySem.W.codeIn K cd22 "_law_put" = true) (k22 : PySem.W.keepIn K (.ref f22) = true)
    (a23 : PySem.W.nsIn K mainGlobals "_law_nodes" = some (some (.ref f23))) (l23 : K.lookup f23 = some ⟨oc23, od23, .func (PySem.W.fnOf "_law_nodes" "_law_nodes" (defArgs s__law_nodes) (defBody s__law_nodes) (defScope s__law_nodes) .none kV23 dc23 pm23 an23 cd23 ct23), sl23⟩) (c23 : PySem.W.codeIn K cd23 "_law_nodes" = true) (k23 : PySem.W.keepIn K (.ref f23) = true)
    (a24 : PySem.W.nsIn K mainGlobals "_law_made" = some (some (.ref f24))) (l24 : K.lookup f24 = some ⟨oc24, od24, .func (PySem.W.fnOf "_law_made" "_law_made" (defArgs s__law_made) (defBody s__law_made) (defScope s__law_made) .none kV24 dc24 pm24 an24 cd24 ct24), sl24⟩) (c24 : PySem.W.codeIn K cd24 "_law_made" = true) (k24 : PySem.W.keepIn K (.ref f24) = true)
    (a25 : PySem.W.nsIn K mainGlobals "law" = some (some (.ref f25))) (l25 : K.lookup f25 = some ⟨oc25, od25, .func (PySem.W.fnOf "law" "law" (defArgs s_law) (defBody s_law) (defScope s_law) .none kV25 dc25 pm25 an25 cd25 ct25), sl25⟩) (c25 : PySem.W.codeIn K cd25 "law" = true) (k25 : PySem.W.keepIn K (.ref f25) = true)
    (z0 : PySem.W.nsIn K mainGlobals "len" = some none)
    (z1 : PySem.W.nsIn K mainGlobals "tuple" = some none)
    (z2 : PySem.W.nsIn K mainGlobals "list" = some none)
    (z3 : PySem.W.nsIn K mainGlobals "int" = some none)
    (z4 : PySem.W.nsIn K mainGlobals "abs" = some none)
    (z5 : PySem.W.nsIn K mainGlobals "range" = some none)
    (z6 : PySem.W.nsIn K mainGlobals "all" = some none)
    (z7 : PySem.W.nsIn K mainGlobals "isinstance" = some none)
    (z8 : PySem.W.nsIn K mainGlobals "str" = some none)
    (z9 : PySem.W.nsIn K mainGlobals "bool" = some none)
    (z10 : PySem.W.nsIn K mainGlobals "sum" = some none) :
    ∃ fd : FuncData, (∀ (s : Shared) (v : Value), BindsTo s fd ⟨[v], []⟩ [("_law_script", v)]) ∧ ∀ base : Heap, K.In base → base.Ns mainGlobals mg → FnG l.prog w K mg base 14 fa fd ["_law_script"] (lowS0 K) := by
  have e := hfa.symm.trans (PySem.W.mg_of X G a25)
  cases e
  have B : DL.Blt K mg := ⟨PySem.W.mg_none_of X G z0, PySem.W.mg_none_of X G z1, PySem.W.mg_none_of X G z2, PySem.W.mg_none_of X G z3, PySem.W.mg_none_of X G z4, PySem.W.mg_none_of X G z5, PySem.W.mg_none_of X G z6, PySem.W.mg_none_of X G z7, PySem.W.mg_none_of X G z8, PySem.W.mg_none_of X G z9, PySem.W.mg_none_of X G z10, ⟨C0, PySem.W.mg_of X G aC0, ⟨pg0, hd0, po0, sa0⟩, nf0⟩, ⟨C0, PySem.W.mg_of X G aC0, ⟨pg0, hd0, po0, sa0⟩, nf1⟩⟩
  have T_decide : TopF K mg "decide" "decide" s_decide ["table", "valuation"] := top_mk X G a0 l0 c0 k0 fun _ _ _ _ _ _ us hl => match us, hl with | [_, _], _ => rfl
  have F_Decider___init__ := fun_mk (st := s_Decider___init__) l1 c1 k1
  have b_Decider___init__ := F_Decider___init__.binds (ps := ["self", "table"]) fun _ _ _ _ _ _ us hl => match us, hl with | [_, _], _ => rfl
  have F_Decider_wants := fun_mk (st := s_Decider_wants) l2 c2 k2
  have b_Decider_wants := F_Decider_wants.binds (ps := ["self"]) fun _ _ _ _ _ _ us hl => match us, hl with | [_], _ => rfl
  have F_Decider_value := fun_mk (st := s_Decider_value) l3 c3 k3
  have b_Decider_value := F_Decider_value.binds (ps := ["self"]) fun _ _ _ _ _ _ us hl => match us, hl with | [_], _ => rfl
  have F_Decider_told := fun_mk (st := s_Decider_told) l4 c4 k4
  have b_Decider_told := F_Decider_told.binds (ps := ["self", "truth"]) fun _ _ _ _ _ _ us hl => match us, hl with | [_, _], _ => rfl
  have T__law_begin : TopF K mg "_law_begin" "_law_begin" s__law_begin ["_law_script"] := top_mk X G a5 l5 c5 k5 fun _ _ _ _ _ _ us hl => match us, hl with | [_], _ => rfl
  have T__law_draw : TopF K mg "_law_draw" "_law_draw" s__law_draw ["_law_d", "_law_many"] := top_mk X G a6 l6 c6 k6 fun _ _ _ _ _ _ us hl => match us, hl with | [_, _], _ => rfl
  have T__law_rising : TopF K mg "_law_rising" "_law_rising" s__law_rising ["_law_row_here"] := top_mk X G a7 l7 c7 k7 fun _ _ _ _ _ _ us hl => match us, hl with | [_], _ => rfl
  have T__law_valuations : TopF K mg "_law_valuations" "_law_valuations" s__law_valuations ["_law_many"] := top_mk X G a8 l8 c8 k8 fun _ _ _ _ _ _ us hl => match us, hl with | [_], _ => rfl
  have T__law_shrunk : TopF K mg "_law_shrunk" "_law_shrunk" s__law_shrunk ["_law_row_here"] := top_mk X G a9 l9 c9 k9 fun _ _ _ _ _ _ us hl => match us, hl with | [_], _ => rfl
  have T__law_agrees : TopF K mg "_law_agrees" "_law_agrees" s__law_agrees ["_law_truths", "_law_pairs_here"] := top_mk X G a10 l10 c10 k10 fun _ _ _ _ _ _ us hl => match us, hl with | [_, _], _ => rfl
  have T__law_way : TopF K mg "_law_way" "_law_way" s__law_way ["_law_nodes_here", "_law_truths"] := top_mk X G a11 l11 c11 k11 fun _ _ _ _ _ _ us hl => match us, hl with | [_, _], _ => rfl
  have T__law_pick : TopF K mg "_law_pick" "_law_pick" s__law_pick ["_law_d", "_law_row_here"] := top_mk X G a12 l12 c12 k12 fun _ _ _ _ _ _ us hl => match us, hl with | [_, _], _ => rfl
  have T__law_rare : TopF K mg "_law_rare" "_law_rare" s__law_rare ["_law_d", "_law_many"] := top_mk X G a13 l13 c13 k13 fun _ _ _ _ _ _ us hl => match us, hl with | [_, _], _ => rfl
  have T__law_shuffled : TopF K mg "_law_shuffled" "_law_shuffled" s__law_shuffled ["_law_d", "_law_row_here"] := top_mk X G a14 l14 c14 k14 fun _ _ _ _ _ _ us hl => match us, hl with | [_, _], _ => rfl
  have T__law_pairs : TopF K mg "_law_pairs" "_law_pairs" s__law_pairs ["_law_d", "_law_many", "_law_share"] := top_mk X G a15 l15 c15 k15 fun _ _ _ _ _ _ us hl => match us, hl with | [_, _, _], _ => rfl
  have T__law_by_rules : TopF K mg "_law_by_rules" "_law_by_rules" s__law_by_rules ["_law_rules", "_law_truths", "_law_otherwise"] := top_mk X G a16 l16 c16 k16 fun _ _ _ _ _ _ us hl => match us, hl with | [_, _, _], _ => rfl
  have T__law_values : TopF K mg "_law_values" "_law_values" s__law_values ["_law_d"] := top_mk X G a17 l17 c17 k17 fun _ _ _ _ _ _ us hl => match us, hl with | [_], _ => rfl
  have T__law_row : TopF K mg "_law_row" "_law_row" s__law_row ["_law_d", "_law_many", "_law_kinds"] := top_mk X G a18 l18 c18 k18 fun _ _ _ _ _ _ us hl => match us, hl with | [_, _, _], _ => rfl
  have T__law_same : TopF K mg "_law_same" "_law_same" s__law_same ["_law_one", "_law_other"] := top_mk X G a19 l19 c19 k19 fun _ _ _ _ _ _ us hl => match us, hl with | [_, _], _ => rfl
  have T__law_is_there : TopF K mg "_law_is_there" "_law_is_there" s__law_is_there ["_law_decider", "_law_way_here", "_law_at"] := top_mk X G a20 l20 c20 k20 fun _ _ _ _ _ _ us hl => match us, hl with | [_, _, _], _ => rfl
  have T__law_all_there : TopF K mg "_law_all_there" "_law_all_there" s__law_all_there ["_law_deciders", "_law_ways", "_law_places"] := top_mk X G a21 l21 c21 k21 fun _ _ _ _ _ _ us hl => match us, hl with | [_, _, _], _ => rfl
  have T__law_put : TopF K mg "_law_put" "_law_put" s__law_put ["_law_row_here", "_law_many", "_law_values_here", "_law_nodes_here", "_law_names"] := top_mk X G a22 l22 c22 k22 fun _ _ _ _ _ _ us hl => match us, hl with | [_, _, _, _, _], _ => rfl
  have T__law_nodes : TopF K mg "_law_nodes" "_law_nodes" s__law_nodes ["_law_row_here", "_law_many", "_law_values_here"] := top_mk X G a23 l23 c23 k23 fun _ _ _ _ _ _ us hl => match us, hl with | [_, _, _], _ => rfl
  have T__law_made : TopF K mg "_law_made" "_law_made" s__law_made ["_law_d"] := top_mk X G a24 l24 c24 k24 fun _ _ _ _ _ _ us hl => match us, hl with | [_], _ => rfl
  refine ⟨PySem.W.fnOf "law" "law" (defArgs s_law) (defBody s_law) (defScope s_law) .none kV25 dc25 pm25 an25 cd25 ct25, fun s v => .of_eq rfl, fun base _ _ => ?_⟩
  have G_decide : Good l.prog w K mg base 1 "decide" ["table", "valuation"] sp_decide := good_decide T_decide B len_decide sat_decide
  have G_Decider___init__ : MakeG l.prog w K mg base 1 "Decider" sp_Decider___init__ := ⟨⟨C0, f1, _, _, PySem.W.mg_of X G aC0, ⟨mk0, a1, i1, kc0⟩, (fn_Decider___init__ F_Decider___init__ B len_Decider___init__ sat_Decider___init__), b_Decider___init__⟩⟩
  have G_Decider_wants : PropG l.prog w K mg base 1 "Decider" "wants" sp_Decider_wants := ⟨⟨C0, p2, f2, _, PySem.W.mg_of X G aC0, ⟨pg0, hd0, po0, sa0⟩, ⟨a2, ge2, tk2, ⟨_, rc2⟩⟩, (fn_Decider_wants F_Decider_wants B len_Decider_wants sat_Decider_wants), b_Decider_wants⟩⟩
  have G_Decider_value : PropG l.prog w K mg base 1 "Decider" "value" sp_Decider_value := ⟨⟨C0, p3, f3, _, PySem.W.mg_of X G aC0, ⟨pg0, hd0, po0, sa0⟩, ⟨a3, ge3, tk3, ⟨_, rc3⟩⟩, (fn_Decider_value F_Decider_value B len_Decider_value sat_Decider_value), b_Decider_value⟩⟩
  have G_Decider_told : MethG l.prog w K mg base 1 "Decider" "told" sp_Decider_told := ⟨⟨C0, f4, _, _, PySem.W.mg_of X G aC0, ⟨pg0, hd0, po0, sa0⟩, ⟨a4, i4, k4⟩, (fn_Decider_told F_Decider_told B len_Decider_told sat_Decider_told), b_Decider_told⟩⟩
  have G__law_begin : Good l.prog w K mg base 1 "_law_begin" ["_law_script"] sp__law_begin := good__law_begin T__law_begin B len__law_begin sat__law_begin
  have G__law_draw : Good l.prog w K mg base 1 "_law_draw" ["_law_d", "_law_many"] sp__law_draw := good__law_draw T__law_draw B len__law_draw sat__law_draw
  have G__law_rising : Good l.prog w K mg base 1 "_law_rising" ["_law_row_here"] sp__law_rising := good__law_rising T__law_rising B len__law_rising sat__law_rising
  have G__law_valuations : Good l.prog w K mg base 1 "_law_valuations" ["_law_many"] sp__law_valuations := good__law_valuations T__law_valuations B len__law_valuations sat__law_valuations
  have G__law_shrunk : Good l.prog w K mg base 1 "_law_shrunk" ["_law_row_here"] sp__law_shrunk := good__law_shrunk T__law_shrunk B len__law_shrunk sat__law_shrunk
  have G__law_agrees : Good l.prog w K mg base 1 "_law_agrees" ["_law_truths", "_law_pairs_here"] sp__law_agrees := good__law_agrees T__law_agrees B len__law_agrees sat__law_agrees
  have G__law_way : Good l.prog w K mg base 1 "_law_way" ["_law_nodes_here", "_law_truths"] sp__law_way := good__law_way T__law_way B len__law_way sat__law_way
  have G__law_pick : Good l.prog w K mg base 2 "_law_pick" ["_law_d", "_law_row_here"] sp__law_pick := good__law_pick T__law_pick B G__law_draw len__law_pick sat__law_pick
  have G__law_rare : Good l.prog w K mg base 2 "_law_rare" ["_law_d", "_law_many"] sp__law_rare := good__law_rare T__law_rare B G__law_draw len__law_rare sat__law_rare
  have G__law_shuffled : Good l.prog w K mg base 2 "_law_shuffled" ["_law_d", "_law_row_here"] sp__law_shuffled := good__law_shuffled T__law_shuffled B G__law_draw len__law_shuffled sat__law_shuffled
  have G__law_pairs : Good l.prog w K mg base 2 "_law_pairs" ["_law_d", "_law_many", "_law_share"] sp__law_pairs := good__law_pairs T__law_pairs B G__law_draw len__law_pairs sat__law_pairs
  have G__law_by_rules : Good l.prog w K mg base 2 "_law_by_rules" ["_law_rules", "_law_truths", "_law_otherwise"] sp__law_by_rules := good__law_by_rules T__law_by_rules B G__law_agrees len__law_by_rules sat__law_by_rules
  have G__law_values : Good l.prog w K mg base 3 "_law_values" ["_law_d"] sp__law_values := good__law_values T__law_values B G__law_draw G__law_shuffled len__law_values sat__law_values
  have G__law_row : Good l.prog w K mg base 3 "_law_row" ["_law_d", "_law_many", "_law_kinds"] sp__law_row := good__law_row T__law_row B G__law_draw G__law_valuations G__law_pairs G__law_by_rules len__law_row sat__law_row
  have R__law_same : ∀ d, Good l.prog w K mg base (1 + d) "_law_same" ["_law_one", "_law_other"] (sp__law_same d) := fun d => by
    induction d with
    | zero => exact (Good.no T__law_same).imp fun _ _ _ z => z.elim
    | succ d ih => exact good__law_same T__law_same B ih (len__law_same (d + 1)) (sat__law_same d)
  have G__law_same : Good l.prog w K mg base 6 "_law_same" ["_law_one", "_law_other"] (sp__law_same 5) := R__law_same 5
  have G__law_is_there : Good l.prog w K mg base 7 "_law_is_there" ["_law_decider", "_law_way_here", "_law_at"] sp__law_is_there := good__law_is_there T__law_is_there B G__law_same G_Decider_wants G_Decider_value len__law_is_there sat__law_is_there
  have G__law_all_there : Good l.prog w K mg base 8 "_law_all_there" ["_law_deciders", "_law_ways", "_law_places"] sp__law_all_there := good__law_all_there T__law_all_there B G__law_is_there len__law_all_there sat__law_all_there
  have R__law_put : ∀ d, Good l.prog w K mg base (2 + d) "_law_put" ["_law_row_here", "_law_many", "_law_values_here", "_law_nodes_here", "_law_names"] (sp__law_put d) := fun d => by
    induction d with
    | zero => exact (Good.no T__law_put).imp fun _ _ _ z => z.elim
    | succ d ih => exact good__law_put T__law_put B ih G__law_shrunk (len__law_put (d + 1)) (sat__law_put d)
  have G__law_put : Good l.prog w K mg base 11 "_law_put" ["_law_row_here", "_law_many", "_law_values_here", "_law_nodes_here", "_law_names"] (sp__law_put 9) := R__law_put 9
  have G__law_nodes : Good l.prog w K mg base 12 "_law_nodes" ["_law_row_here", "_law_many", "_law_values_here"] sp__law_nodes := good__law_nodes T__law_nodes B G__law_put G__law_shrunk len__law_nodes sat__law_nodes
  have G__law_made : Good l.prog w K mg base 13 "_law_made" ["_law_d"] sp__law_made := good__law_made T__law_made B G__law_draw G__law_rare G__law_values G__law_row G__law_nodes len__law_made sat__law_made
  exact (fn_law (fun_mk (st := s_law) l25 c25 k25) B G__law_begin G__law_made G__law_draw G__law_way G_Decider___init__ G__law_all_there G__law_pick G_Decider_told G__law_is_there G_decide G__law_same G__law_rising len_law sat_law).imp fun _ _ _ _ q => q w mg
open PySem PySem.W PyProof.Rows
set_option maxRecDepth 100000 in
set_option maxHeartbeats 0 in
theorem PySem.Challenge.cw_leaveledger_k49_deciders_holds : PySem.Challenge.rw_leaveledger_k49_deciders.Holds := by
  w_on; o_law; k_head; (case hw => w_witness2)
  k_fill
  refine DL.walk_ofG (l := PySem.Challenge.rw_leaveledger_k49_deciders) (n := 63) (k := 14) (x := "_law_script") (sp := fun K => DL.lowS0 K) rfl (by decide) rfl ⟨⟨rfl, by decide, by decide⟩, rfl⟩ (fun w h Y => PySem.W.kIn_of Y) ?F (fun _ _ _ _ hl ho hs => DL.law_start hl ho hs)
  case F =>
    intro w mg fa h KX G hmg
    refine' DL.all_mk KX G hmg ?aC0 ?pg0 ?hd0 ?po0 ?sa0 ?mk0 ?kc0 ?nf0 ?nf1 ?a0 ?l0 ?c0 ?k0 ?a1 ?i1 ?l1 ?c1 ?k1 ?a2 ?ge2 ?tk2 ?rc2 ?l2 ?c2 ?k2 ?a3 ?ge3 ?tk3 ?rc3 ?l3 ?c3 ?k3 ?a4 ?i4 ?l4 ?c4 ?k4 ?a5 ?l5 ?c5 ?k5 ?a6 ?l6 ?c6 ?k6 ?a7 ?l7 ?c7 ?k7 ?a8 ?l8 ?c8 ?k8 ?a9 ?l9 ?c9 ?k9 ?a10 ?l10 ?c10 ?k10 ?a11 ?l11 ?c11 ?k11 ?a12 ?l12 ?c12 ?k12 ?a13 ?l13 ?c13 ?k13 ?a14 ?l14 ?c14 ?k14 ?a15 ?l15 ?c15 ?k15 ?a16 ?l16 ?c16 ?k16 ?a17 ?l17 ?c17 ?k17 ?a18 ?l18 ?c18 ?k18 ?a19 ?l19 ?c19 ?k19 ?a20 ?l20 ?c20 ?k20 ?a21 ?l21 ?c21 ?k21 ?a22 ?l22 ?c22 ?k22 ?a23 ?l23 ?c23 ?k23 ?a24 ?l24 ?c24 ?k24 ?a25 ?l25 ?c25 ?k25 ?z0 ?z1 ?z2 ?z3 ?z4 ?z5 ?z6 ?z7 ?z8 ?z9 ?z10
    (case aC0 => k_is)
    (case pg0 => k_is)
    (case hd0 => k_is)
    (case po0 => k_is)
    (case sa0 => k_is)
    (case mk0 => k_is)
    (case kc0 => k_is)
    (case nf0 => k_is)
    (case nf1 => k_is)
    (case a0 => k_is)
    (case l0 => k_is)
    (case c0 => k_is)
    (case k0 => k_is)
    (case a1 => k_is)
    (case i1 => k_is)
    (case l1 => k_is)
    (case c1 => k_is)
    (case k1 => k_is)
    (case a2 => k_is)
    (case ge2 => k_is)
    (case tk2 => k_is)
    (case rc2 => k_is)
    (case l2 => k_is)
    (case c2 => k_is)
    (case k2 => k_is)
    (case a3 => k_is)
    (case ge3 => k_is)
    (case tk3 => k_is)
    (case rc3 => k_is)
    (case l3 => k_is)
    (case c3 => k_is)
    (case k3 => k_is)
    (case a4 => k_is)
    (case i4 => k_is)
    (case l4 => k_is)
    (case c4 => k_is)
    (case k4 => k_is)
    (case a5 => k_is)
    (case l5 => k_is)
    (case c5 => k_is)
    (case k5 => k_is)
    (case a6 => k_is)
    (case l6 => k_is)
    (case c6 => k_is)
    (case k6 => k_is)
    (case a7 => k_is)
    (case l7 => k_is)
    (case c7 => k_is)
    (case k7 => k_is)
    (case a8 => k_is)
    (case l8 => k_is)
    (case c8 => k_is)
    (case k8 => k_is)
    (case a9 => k_is)
    (case l9 => k_is)
    (case c9 => k_is)
    (case k9 => k_is)
    (case a10 => k_is)
    (case l10 => k_is)
    (case c10 => k_is)
    (case k10 => k_is)
    (case a11 => k_is)
    (case l11 => k_is)
    (case c11 => k_is)
    (case k11 => k_is)
    (case a12 => k_is)
    (case l12 => k_is)
    (case c12 => k_is)
    (case k12 => k_is)
    (case a13 => k_is)
    (case l13 => k_is)
    (case c13 => k_is)
    (case k13 => k_is)
    (case a14 => k_is)
    (case l14 => k_is)
    (case c14 => k_is)
    (case k14 => k_is)
    (case a15 => k_is)
    (case l15 => k_is)
    (case c15 => k_is)
    (case k15 => k_is)
    (case a16 => k_is)
    (case l16 => k_is)
    (case c16 => k_is)
    (case k16 => k_is)
    (case a17 => k_is)
    (case l17 => k_is)
    (case c17 => k_is)
    (case k17 => k_is)
    (case a18 => k_is)
    (case l18 => k_is)
    (case c18 => k_is)
    (case k18 => k_is)
    (case a19 => k_is)
    (case l19 => k_is)
    (case c19 => k_is)
    (case k19 => k_is)
    (case a20 => k_is)
    (case l20 => k_is)
    (case c20 => k_is)
    (case k20 => k_is)
    (case a21 => k_is)
    (case l21 => k_is)
    (case c21 => k_is)
    (case k21 => k_is)
    (case a22 => k_is)
    (case l22 => k_is)
    (case c22 => k_is)
    (case k22 => k_is)
    (case a23 => k_is)
    (case l23 => k_is)
    (case c23 => k_is)
    (case k23 => k_is)
    (case a24 => k_is)
    (case l24 => k_is)
    (case c24 => k_is)
    (case k24 => k_is)
    (case a25 => k_is)
    (case l25 => k_is)
    (case c25 => k_is)
    (case k25 => k_is)
    (case z0 => k_is)
    (case z1 => k_is)
    (case z2 => k_is)
    (case z3 => k_is)
    (case z4 => k_is)
    (case z5 => k_is)
    (case z6 => k_is)
    (case z7 => k_is)
    (case z8 => k_is)
    (case z9 => k_is)
    (case z10 => k_is)
