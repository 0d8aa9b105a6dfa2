import PyProof.Rows.All
import Wide.All
import OpenK.AllK
import Wide.FinOn
import PySem.Challenge.RW_leaveledger_k07_tokens
import HandS.ForMost
import HandS.Wide
import HandS.WideBits
import HandS.IsInst
import HandS.TupAny
import HandS.Deep
set_option Elab.async false
set_option linter.all false
set_option maxRecDepth 100000
set_option maxHeartbeats 4000000
namespace DL
open PySem PySem.Spec PyProof.Rows L2
/-! ### data -/
inductive D where
  | none | bool (b : Bool) | int (i : Int) | str (x : Str) | tup (xs : List D) | rol (xs : List D) | ref (a : Addr) | ty (n : String)
deriving Inhabited
/-- a list that nobody writes: locked, or of the written part -/
def ROL (K : PySem.W.Frag) (H : Hp) (a : Addr) (xs : List V) : Prop :=
  (∃ o, H a = some (.frz o (.lst xs))) ∨
    ∃ (o : Obj) (its : Array Value) (n : Nat), K.lookup a = some o ∧ o.cls = .type "list" ∧ o.dict = none ∧ o.data = .seq its n ∧ its.size ≤ sizeLine ∧ Vals xs its.toList
theorem ROL.sq {K : PySem.W.Frag} {H : Hp} {a : Addr} {xs : List V} (h : ROL K H a xs) : SqL K H a xs := by
  rcases h with ⟨o, h⟩ | h
  · exact .inl (.inr ⟨o, h⟩)
  · exact .inr h
/-- a text that the rules take -/
def okS (x : Str) : Prop := x.length ≤ sizeLine ∧ PyData.strOk x = true
mutual
def RepV (K : PySem.W.Frag) (H : Hp) : D → V → Prop
  | .none, v => v = .non
  | .bool b, v => v = .bl b
  | .int i, v => v = .int i
  | .str x, v => v = .str x ∧ okS x
  | .ref a, v => v = .ref a
  | .ty n, v => v = .ty n
  | .tup ds, v => ∃ a vs, v = .ref a ∧ SqT K H a vs ∧ RepVs K H ds vs
  | .rol ds, v => ∃ a vs, v = .ref a ∧ ROL K H a vs ∧ RepVs K H ds vs
def RepVs (K : PySem.W.Frag) (H : Hp) : List D → List V → Prop
  | [], vs => vs = []
  | d :: ds, vs => ∃ v r, vs = v :: r ∧ RepV K H d v ∧ RepVs K H ds r
end
/-- what stands for good stands -/
structure Mo (K : PySem.W.Frag) (H H' : Hp) : Prop where
  t : ∀ a xs, SqT K H a xs → SqT K H' a xs
  l : ∀ a xs, ROL K H a xs → ROL K H' a xs
theorem Mo.refl {K : PySem.W.Frag} {H : Hp} : Mo K H H := ⟨fun _ _ h => h, fun _ _ h => h⟩
theorem Mo.trans {K : PySem.W.Frag} {H H1 H2 : Hp} (a : Mo K H H1) (b : Mo K H1 H2) : Mo K H H2 := ⟨fun c xs h => b.t c xs (a.t c xs h), fun c xs h => b.l c xs (a.l c xs h)⟩
mutual
theorem RepV.mono {K : PySem.W.Frag} {H H' : Hp} (m : Mo K H H') : ∀ (d : D) {v : V}, RepV K H d v → RepV K H' d v
  | .none, _, h => h
  | .bool _, _, h => h
  | .int _, _, h => h
  | .str _, _, h => h
  | .ref _, _, h => h
  | .ty _, _, h => h
  | .tup ds, _, h => by
    obtain ⟨a, vs, e, s, r⟩ := h
    exact ⟨a, vs, e, m.t _ _ s, RepVs.mono m ds r⟩
  | .rol ds, _, h => by
    obtain ⟨a, vs, e, s, r⟩ := h
    exact ⟨a, vs, e, m.l _ _ s, RepVs.mono m ds r⟩
theorem RepVs.mono {K : PySem.W.Frag} {H H' : Hp} (m : Mo K H H') : ∀ (ds : List D) {vs : List V}, RepVs K H ds vs → RepVs K H' ds vs
  | [], _, h => h
  | d :: ds, _, h => by
    obtain ⟨v, r, e, h1, h2⟩ := h
    exact ⟨v, r, e, RepV.mono m d h1, RepVs.mono m ds h2⟩
end
section
variable {K : PySem.W.Frag} {H : Hp}
theorem RepVs.pair : ∀ {ds : List D} {vs : List V}, RepVs K H ds vs → Paired (RepV K H) ds vs
  | [], _, h => by cases (show _ = [] from h); exact .nil
  | d :: ds, _, h => by
    obtain ⟨v, r, rfl, h1, h2⟩ := h
    exact .cons h1 (RepVs.pair h2)
theorem RepVs.of : ∀ {ds : List D} {vs : List V}, Paired (RepV K H) ds vs → RepVs K H ds vs
  | _, _, .nil => rfl
  | _, _, .cons h t => ⟨_, _, rfl, h, RepVs.of t⟩
theorem RepVs.length {ds : List D} {vs : List V} (h : RepVs K H ds vs) : ds.length = vs.length := h.pair.length
theorem RepVs.cons {d : D} {ds : List D} {v : V} {vs : List V} (h : RepV K H d v) (t : RepVs K H ds vs) : RepVs K H (d :: ds) (v :: vs) := ⟨v, vs, rfl, h, t⟩
theorem RepVs.nil : RepVs K H [] [] := rfl
end
section
variable {α β : Type} {R : α → β → Prop}
theorem P2.get : ∀ {xs : List α} {ys : List β} {i : Nat} {x : α}, Paired R xs ys → xs[i]? = some x → ∃ y, ys[i]? = some y ∧ R x y
  | _, _, _, _, .nil, e => by simp at e
  | _, _, 0, _, .cons r _, e => by simp at e; subst e; exact ⟨_, rfl, r⟩
  | _, _, i + 1, x, .cons _ t, e => by
    obtain ⟨u, h1, h2⟩ := P2.get (i := i) (x := x) t (by simpa using e)
    exact ⟨u, by simpa using h1, h2⟩
theorem P2.get' : ∀ {xs : List α} {ys : List β} {i : Nat} {y : β}, Paired R xs ys → ys[i]? = some y → ∃ x, xs[i]? = some x ∧ R x y
  | _, _, _, _, .nil, e => by simp at e
  | _, _, 0, _, .cons r _, e => by simp at e; subst e; exact ⟨_, rfl, r⟩
  | _, _, i + 1, x, .cons _ t, e => by
    obtain ⟨u, h1, h2⟩ := P2.get' (i := i) (y := x) t (by simpa using e)
    exact ⟨u, by simpa using h1, h2⟩
theorem P2.set {x : α} {u : β} (r : R x u) : ∀ {xs : List α} {us : List β} (i : Nat), Paired R xs us → Paired R (xs.set i x) (us.set i u)
  | _, _, _, .nil => .nil
  | _, _, 0, .cons _ t => .cons r t
  | _, _, i + 1, .cons q t => .cons q (P2.set r i t)
theorem P2.append : ∀ {xs ys : List α} {us ws : List β}, Paired R xs us → Paired R ys ws → Paired R (xs ++ ys) (us ++ ws)
  | _, _, _, _, .nil, s => s
  | _, _, _, _, .cons r t, s => .cons r (P2.append t s)
theorem P2.take : ∀ {xs : List α} {us : List β} (n : Nat), Paired R xs us → Paired R (xs.take n) (us.take n)
  | _, _, 0, _ => .nil
  | _, _, _ + 1, .nil => .nil
  | _, _, n + 1, .cons r t => .cons r (P2.take n t)
theorem P2.drop : ∀ {xs : List α} {us : List β} (n : Nat), Paired R xs us → Paired R (xs.drop n) (us.drop n)
  | _, _, 0, r => r
  | _, _, _ + 1, .nil => .nil
  | _, _, n + 1, .cons _ t => P2.drop n t
theorem P2.reverse {xs : List α} {us : List β} (h : Paired R xs us) : Paired R xs.reverse us.reverse := by
  induction h with
  | nil => exact .nil
  | cons r _ ih => rw [List.reverse_cons, List.reverse_cons]; exact P2.append ih (.cons r .nil)
theorem P2.eraseIdx : ∀ {xs : List α} {us : List β} (n : Nat), Paired R xs us → Paired R (xs.eraseIdx n) (us.eraseIdx n)
  | _, _, _, .nil => .nil
  | _, _, 0, .cons _ t => t
  | _, _, n + 1, .cons r t => .cons r (P2.eraseIdx n t)
theorem P2.dropLast {xs : List α} {us : List β} (h : Paired R xs us) : Paired R xs.dropLast us.dropLast := by
  rw [List.dropLast_eq_take, List.dropLast_eq_take, h.length]; exact P2.take _ h
theorem P2.mono {S : α → β → Prop} (f : ∀ a b, R a b → S a b) : ∀ {xs : List α} {us : List β}, Paired R xs us → Paired S xs us
  | _, _, .nil => .nil
  | _, _, .cons r t => .cons (f _ _ r) (P2.mono f t)
end
/-! ### the data-level heap -/
inductive MO where
  | lst (xs : List D)
abbrev MH := Addr → Option MO
def up (h : MH) (a : Addr) (o : MO) : MH := fun b => if b = a then some o else h b
theorem up_same {h : MH} {a : Addr} {o : MO} : up h a o a = some o := by unfold up; rw [if_pos rfl]
theorem up_ne {h : MH} {a b : Addr} {o : MO} (n : b ≠ a) : up h a o b = h b := by unfold up; rw [if_neg n]
theorem up_up {h : MH} {a : Addr} {o u : MO} : up (up h a o) a u = up h a u := by
  funext b; unfold up; split <;> rfl
def le (h h' : MH) : Prop := ∀ a o, h a = some o → h' a = some o
theorem le.refl {h : MH} : le h h := fun _ _ e => e
theorem le.trans {h h1 h2 : MH} (a : le h h1) (b : le h1 h2) : le h h2 := fun c o e => b c o (a c o e)
theorem le.up {h : MH} {a : Addr} {o : MO} (n : h a = none) : le h (up h a o) := fun b u e => by
  rw [up_ne (fun z => by rw [z, n] at e; cases e)]; exact e
theorem le.up2 {h h' : MH} {a : Addr} {o : MO} (l : le h h') : le (DL.up h a o) (DL.up h' a o) := fun b u e => by
  unfold DL.up at e ⊢; split at e
  · rename_i z; rw [if_pos z]; exact e
  · rename_i z; rw [if_neg z]; exact l b u e
/-- what stands at an address -/
def RepO (K : PySem.W.Frag) (H : Hp) (a : Addr) : MO → Prop
  | .lst ds => ∃ vs, H a = some (.lst vs) ∧ RepVs K H ds vs
def RepH (K : PySem.W.Frag) (h : MH) (H : Hp) : Prop := ∀ a o, h a = some o → RepO K H a o
/-- hidden things stand -/
def Stp (h : MH) (H : Hp) (h' : MH) (H' : Hp) : Prop := ∀ a o, h a = none → H a = some o → h' a = none ∧ H' a = some o
section
variable {K : PySem.W.Frag} {h h' h1 h2 h0 : MH} {H H' H1 H2 : Hp} {a l : Addr} {d : D} {ds : List D} {v : V} {vs : List V}
theorem RepH.low (r : RepH K h H) (w : le h0 h) : RepH K h0 H := fun a o e => r a o (w a o e)
theorem Stp.refl : Stp h H h H := fun _ _ a b => ⟨a, b⟩
theorem Stp.trans (a : Stp h H h1 H1) (b : Stp h1 H1 h2 H2) : Stp h H h2 H2 := fun c o e f => let ⟨x, y⟩ := a c o e f; b c o x y
theorem Stp.low (a : Stp h H h1 H1) (w : le h0 h1) : Stp h H h0 H1 := fun c o e f => by
  obtain ⟨x, y⟩ := a c o e f
  refine ⟨?_, y⟩
  cases q : h0 c with
  | none => rfl
  | some u => rw [w c u q] at x; cases x
theorem RepH.hid (r : RepH K h H) {o : HO} (e : H a = some o) (n : ∀ vs, o ≠ .lst vs) : h a = none := by
  cases q : h a with
  | none => rfl
  | some u =>
    cases u with
    | lst ds =>
      obtain ⟨vs, e2, _⟩ := r a _ q
      rw [e] at e2; cases e2
      exact absurd rfl (n _)
theorem Stp.mo (r : RepH K h H) (s : Stp h H h' H') : Mo K H H' := by
  refine ⟨fun a xs q => ?_, fun a xs q => ?_⟩
  · rcases q with (q | ⟨o, q⟩) | q
    · exact .inl (.inl (s a _ (r.hid q fun _ z => nomatch z) q).2)
    · exact .inl (.inr ⟨o, (s a _ (r.hid q fun _ z => nomatch z) q).2⟩)
    · exact .inr q
  · rcases q with ⟨o, q⟩ | q
    · exact .inl ⟨o, (s a _ (r.hid q fun _ z => nomatch z) q).2⟩
    · exact .inr q
theorem RepO.mono (m : Mo K H H') {o : MO} (q : ∀ u, H a = some u → H' a = some u) (x : RepO K H a o) : RepO K H' a o := by
  cases o with
  | lst ds =>
    obtain ⟨vs, e, r⟩ := x
    exact ⟨vs, q _ e, RepVs.mono m _ r⟩
theorem RepH.nofresh (r : RepH K h H) (n : H l = none) : h l = none := by
  cases q : h l with
  | none => rfl
  | some u =>
    cases u with
    | lst ds =>
      obtain ⟨vs, e2, _⟩ := r l _ q
      rw [n] at e2; cases e2
/-- something hidden is laid -/
theorem Stp.hide {o : HO} (n : H l = none) : Stp h H h (upd H l o) := fun a u e f => ⟨e, by rw [upd_ne (ne_of_none f n)]; exact f⟩
theorem RepH.hide (r : RepH K h H) {o : HO} (n : H l = none) : RepH K h (upd H l o) := fun a u e =>
  (r a u e).mono (Stp.mo r (Stp.hide n)) fun x f => by rw [upd_ne (ne_of_none f n)]; exact f
/-- a list is laid -/
theorem Stp.new {o : HO} {u : MO} (n : H l = none) : Stp h H (up h l u) (upd H l o) := fun a x e f =>
  ⟨by rw [up_ne (ne_of_none f n)]; exact e, by rw [upd_ne (ne_of_none f n)]; exact f⟩
theorem RepH.new (r : RepH K h H) (n : H l = none) (rv : RepVs K H ds vs) : RepH K (up h l (.lst ds)) (upd H l (.lst vs)) := fun a u e => by
  have m := Stp.mo r (Stp.hide (o := .lst vs) n)
  by_cases q : a = l
  · subst q
    rw [up_same] at e; cases e
    exact ⟨vs, upd_same, RepVs.mono m _ rv⟩
  · rw [up_ne q] at e
    exact (r a u e).mono m fun x f => by rw [upd_ne q]; exact f
/-- a list is written -/
theorem Stp.write {o : HO} {u x : MO} (e0 : h a = some x) : Stp h H (up h a u) (upd H a o) := fun b y e f => by
  have n : b ≠ a := fun z => by rw [z, e0] at e; cases e
  exact ⟨by rw [up_ne n]; exact e, by rw [upd_ne n]; exact f⟩
theorem RepH.write (r : RepH K h H) {ds0 : List D} (e0 : h a = some (.lst ds0)) (rv : RepVs K H ds vs) : RepH K (up h a (.lst ds)) (upd H a (.lst vs)) := fun b u e => by
  have m := Stp.mo r (Stp.write (o := .lst vs) (u := .lst ds) e0)
  by_cases q : b = a
  · subst q
    rw [up_same] at e; cases e
    exact ⟨vs, upd_same, RepVs.mono m _ rv⟩
  · rw [up_ne q] at e
    exact (r b u e).mono m fun x f => by rw [upd_ne q]; exact f
end
/-! ### the frame -/
abbrev Sl := List (Option D)
def nth : Sl → Nat → Option D
  | [], _ => none
  | x :: _, 0 => x
  | _ :: r, n + 1 => nth r n
def put : Sl → Nat → Option D → Sl
  | [], _, _ => []
  | _ :: r, 0, d => d :: r
  | x :: r, n + 1, d => x :: put r n d
theorem put_len : ∀ (σ : Sl) (i : Nat) (d : Option D), (put σ i d).length = σ.length
  | [], _, _ => rfl
  | _ :: _, 0, _ => rfl
  | _ :: r, n + 1, d => by show (put r n d).length + 1 = r.length + 1; rw [put_len r n d]
theorem nth_put : ∀ (σ : Sl) (i j : Nat) (d : Option D) {e : D}, nth (put σ i d) j = some e → (j = i ∧ d = some e) ∨ (j ≠ i ∧ nth σ j = some e)
  | [], _, _, _, _, h => by cases h
  | x :: r, 0, 0, d, e, h => .inl ⟨rfl, h⟩
  | x :: r, 0, j + 1, d, e, h => .inr ⟨by omega, h⟩
  | x :: r, n + 1, 0, d, e, h => .inr ⟨by omega, h⟩
  | x :: r, n + 1, j + 1, d, e, h => by
    rcases nth_put r n j d h with ⟨a, b⟩ | ⟨a, b⟩
    · exact .inl ⟨by omega, b⟩
    · exact .inr ⟨by omega, b⟩
theorem nth_lt : ∀ (σ : Sl) (i : Nat) {e : D}, nth σ i = some e → i < σ.length
  | [], _, _, h => by cases h
  | _ :: _, 0, _, _ => Nat.zero_lt_succ _
  | _ :: r, n + 1, _, h => Nat.succ_lt_succ (nth_lt r n h)
structure RepE (K : PySem.W.Frag) (H : Hp) (σ : Sl) (σV : L2.St) : Prop where
  len : σ.length = σV.length
  val : ∀ i d, nth σ i = some d → ∃ v, σV[i]? = some (some v) ∧ RepV K H d v
section
variable {K : PySem.W.Frag} {H H' : Hp} {σ τ : Sl} {σV : L2.St}
theorem RepE.mono (m : Mo K H H') (r : RepE K H σ σV) : RepE K H' σ σV := ⟨r.len, fun i d e => let ⟨v, a, b⟩ := r.val i d e; ⟨v, a, RepV.mono m _ b⟩⟩
theorem RepE.put {i : Nat} {d : D} {v : V} (r : RepE K H σ σV) (rv : RepV K H d v) : RepE K H (put σ i (some d)) (σV.set i (some v)) := by
  refine ⟨by rw [put_len, List.length_set]; exact r.len, fun j e h => ?_⟩
  have hl := nth_lt _ _ h
  rw [put_len, r.len] at hl
  rcases nth_put σ i j _ h with ⟨rfl, q⟩ | ⟨n, q⟩
  · cases q
    exact ⟨v, by rw [List.getElem?_set_self hl], rv⟩
  · obtain ⟨w, a, b⟩ := r.val j e q
    exact ⟨w, by rw [List.getElem?_set_ne (Ne.symm n)]; exact a, b⟩
/-- slots forgotten -/
def leS (τ σ : Sl) : Prop := τ.length = σ.length ∧ ∀ i d, nth τ i = some d → nth σ i = some d
theorem leS.refl : leS σ σ := ⟨rfl, fun _ _ h => h⟩
theorem leS.trans {ρ : Sl} (a : leS ρ τ) (b : leS τ σ) : leS ρ σ := ⟨a.1.trans b.1, fun i d h => b.2 i d (a.2 i d h)⟩
theorem leS.nil : leS [] [] := ⟨rfl, fun _ _ h => h⟩
theorem leS.cons {x : Option D} (a : leS τ σ) : leS (x :: τ) (x :: σ) := ⟨by simp [a.1], fun i d h => by
  cases i with
  | zero => exact h
  | succ n => exact a.2 n d h⟩
theorem leS.skip {x : Option D} (a : leS τ σ) : leS (none :: τ) (x :: σ) := ⟨by simp [a.1], fun i d h => by
  cases i with
  | zero => cases h
  | succ n => exact a.2 n d h⟩
theorem RepE.low (r : RepE K H σ σV) (w : leS τ σ) : RepE K H τ σV := ⟨w.1.trans r.len, fun i d h => r.val i d (w.2 i d h)⟩
end
/-! ### readings of the data level, lowered -/
abbrev KD := D → MH → Prop
abbrev E1 := Sl → MH → KD → Prop
abbrev T1 := Sl → MH → (Bool → MH → Prop) → Prop
abbrev A1 := Sl → MH → (List D → MH → Prop) → Prop
def Cl (K : PySem.W.Frag) (h : MH) (H : Hp) (Q : KD) (QV : VK) : Prop := ∀ d h' v H', Stp h H h' H' → RepH K h' H' → RepV K H' d v → Q d h' → QV v H'
def ClB (K : PySem.W.Frag) (h : MH) (H : Hp) (Q : Bool → MH → Prop) (QV : Bool → Hp → Prop) : Prop := ∀ b h' H', Stp h H h' H' → RepH K h' H' → Q b h' → QV b H'
def ClA (K : PySem.W.Frag) (h : MH) (H : Hp) (Q : List D → MH → Prop) (QV : List V → Hp → Prop) : Prop := ∀ ds h' vs H', Stp h H h' H' → RepH K h' H' → RepVs K H' ds vs → Q ds h' → QV vs H'
def lowE (K : PySem.W.Frag) (t : E1) : TE := fun σV H QV => ∃ σ h Q, RepE K H σ σV ∧ RepH K h H ∧ t σ h Q ∧ Cl K h H Q QV
def lowT (K : PySem.W.Frag) (t : T1) : TT := fun σV H QV => ∃ σ h Q, RepE K H σ σV ∧ RepH K h H ∧ t σ h Q ∧ ClB K h H Q QV
def lowA (K : PySem.W.Frag) (t : A1) : TA := fun σV H QV => ∃ σ h Q, RepE K H σ σV ∧ RepH K h H ∧ t σ h Q ∧ ClA K h H Q QV
theorem Cl.step {K : PySem.W.Frag} {h h1 : MH} {H H1 : Hp} {Q : KD} {QV : VK} (s : Stp h H h1 H1) (c : Cl K h H Q QV) : Cl K h1 H1 Q QV := fun d h' v H' s' a b q => c d h' v H' (s.trans s') a b q
theorem ClB.step {K : PySem.W.Frag} {h h1 : MH} {H H1 : Hp} {Q : Bool → MH → Prop} {QV : Bool → Hp → Prop} (s : Stp h H h1 H1) (c : ClB K h H Q QV) : ClB K h1 H1 Q QV := fun d h' H' s' a q => c d h' H' (s.trans s') a q
theorem ClA.step {K : PySem.W.Frag} {h h1 : MH} {H H1 : Hp} {Q : List D → MH → Prop} {QV : List V → Hp → Prop} (s : Stp h H h1 H1) (c : ClA K h H Q QV) : ClA K h1 H1 Q QV := fun d h' v H' s' a b q => c d h' v H' (s.trans s') a b q
theorem weakE {X : Cx} {e : Expr} {t t' : TE} (p : PE X e t) (w : ∀ σ H Q, t' σ H Q → t σ H Q) : PE X e t' := ⟨fun pins s σ H Q I h => p.run pins s σ H Q I (w σ H Q h)⟩
theorem weakT {X : Cx} {e : Expr} {t t' : TT} (p : PT X e t) (w : ∀ σ H Q, t' σ H Q → t σ H Q) : PT X e t' := ⟨fun pins s σ H Q I h => p.run pins s σ H Q I (w σ H Q h)⟩
theorem weakA {X : Cx} {e : List Expr} {t t' : TA} (p : PA X e t) (w : ∀ σ H Q, t' σ H Q → t σ H Q) : PA X e t' := ⟨fun pos pins s σ H Q I h => p.run pos pins s σ H Q I (w σ H Q h)⟩
abbrev DE (X : Cx) (e : Expr) (t : E1) : Prop := PE X e (lowE X.K t)
abbrev DT (X : Cx) (e : Expr) (t : T1) : Prop := PT X e (lowT X.K t)
abbrev DA (X : Cx) (es : List Expr) (t : A1) : Prop := PA X es (lowA X.K t)
section
variable {X : Cx}
/-! names, constants -/
def dVar (i : Nat) : E1 := fun σ h Q => match nth σ i with | some d => Q d h | none => False
def dC (d : D) : E1 := fun _ h Q => Q d h
theorem de_var (i : Nat) {x : Str} {pos : Pos} (hN : X.N[i]? = some x := by rfl) (hv : Vis X.env.scope x := by first | exact Or.inl rfl | exact Or.inr (Or.inl rfl) | exact Or.inr (Or.inr rfl)) (hd : (x == ("__debug__" : Str)) = false := by decide)
    (hcd : (x == ("__classdict__" : Str)) = false := by decide) : DE X (.Name x pos) (dVar i) := weakE (pe_var hN hv hd hcd) fun σV H QV ⟨σ, h, Q, hE, hH, ht, hc⟩ => by
  unfold dVar at ht
  cases e : nth σ i with
  | none => rw [e] at ht; exact ht.elim
  | some d =>
    rw [e] at ht
    obtain ⟨v, e2, r⟩ := hE.val i d e
    exact ⟨v, e2, hc d h v H Stp.refl hH r ht⟩
theorem de_c {e : Expr} {d : D} {v : V} (p : PE X e (tC v)) (r : ∀ H, RepV X.K H d v) : DE X e (dC d) := weakE p fun σV H QV ⟨σ, h, Q, hE, hH, ht, hc⟩ => hc d h v H Stp.refl hH (r H) ht
theorem de_int {i j pos} : DE X (.Constant (.int i) j pos) (dC (.int i)) := de_c pe_int fun _ => rfl
theorem de_bl {i j pos} : DE X (.Constant (.bool i) j pos) (dC (.bool i)) := de_c pe_bl fun _ => rfl
theorem de_non {j pos} : DE X (.Constant .none j pos) (dC .none) := de_c pe_non fun _ => rfl
theorem de_str {x j pos} (ok : okS x := by exact ⟨by decide, by decide +kernel⟩) : DE X (.Constant (.str x) j pos) (dC (.str x)) := de_c pe_str fun _ => ⟨rfl, ok⟩
/-- a module's constant that is a number, a text .. -/
theorem de_globI {x : Str} {i : Int} {u : Value} {pos : Pos} (hg : Gl X x) (hm : X.mg x = some u) (r : RelV (.int i) u) (hd : (x == ("__debug__" : Str)) = false := by decide) : DE X (.Name x pos) (dC (.int i)) := de_c (pe_glob hg hm r hd) fun _ => rfl
theorem de_globS {x : Str} {i : Str} {u : Value} {pos : Pos} (hg : Gl X x) (hm : X.mg x = some u) (r : RelV (.str i) u) (ok : okS i := by exact ⟨by decide, by decide +kernel⟩) (hd : (x == ("__debug__" : Str)) = false := by decide) : DE X (.Name x pos) (dC (.str i)) := de_c (pe_glob hg hm r hd) fun _ => ⟨rfl, ok⟩
/-! two-place operations -/
abbrev R1 := D → D → MH → KD → Prop
def lowR (K : PySem.W.Frag) (r : R1) : R2 := fun x y H QV => ∃ d e h Q, RepV K H d x ∧ RepV K H e y ∧ RepH K h H ∧ r d e h Q ∧ Cl K h H Q QV
def dOp (r : R1) (ta tb : E1) : E1 := fun σ h Q => ta σ h fun x h1 => tb σ h1 fun y h2 => r x y h2 Q
theorem low_op {K : PySem.W.Frag} {r : R1} {ta tb : E1} {σV : L2.St} {H : Hp} {QV : VK} (h : lowE K (dOp r ta tb) σV H QV) : tOp (lowR K r) (lowE K ta) (lowE K tb) σV H QV := by
  obtain ⟨σ, h, Q, hE, hH, ht, hc⟩ := h
  refine ⟨σ, h, _, hE, hH, ht, fun x h1 v1 H1 s1 hH1 r1 q1 => ?_⟩
  refine ⟨σ, h1, _, hE.mono (Stp.mo hH s1), hH1, q1, fun y h2 v2 H2 s2 hH2 r2 q2 => ?_⟩
  exact ⟨x, y, h2, Q, RepV.mono (Stp.mo hH1 s2) _ r1, r2, hH2, q2, hc.step (s1.trans s2)⟩
theorem opR_of {f : Value → Value → Sem Value} {r' : R2} (h : ∀ x y H Q, r' x y H Q → ∃ r, OpR X f r ∧ r x y H Q) : OpR X f r' := fun pins s σ H x y v u Q I rx ry hr =>
  let ⟨r, ho, hq⟩ := h x y H Q hr
  ho pins s σ H x y v u Q I rx ry hq
theorem de_op {op : Operator} {r : R1} {a b : Expr} {ta tb : E1} {pos : Pos} (ho : OpR X (binaryOp op) (lowR X.K r)) (ha : DE X a ta) (hb : DE X b tb) : DE X (.BinOp a op b pos) (dOp r ta tb) :=
  weakE (pe_op ho ha hb) fun _ _ _ h => low_op h
theorem de_cmpR {op : CmpOp} {r : R1} {a b : Expr} {ta tb : E1} {pos : Pos} (ho : OpR X (compareOp op) (lowR X.K r)) (ha : DE X a ta) (hb : DE X b tb) (hm : behindInMarks op b = false) : DE X (.Compare a [op] [b] pos) (dOp r ta tb) :=
  weakE (pe_cmpR ho ha hb hm) fun _ _ _ h => low_op h
end
end DL
namespace DL
open PySem PySem.Spec PyProof.Rows L2
/-! ### texts -/
theorem okS.app {x y : Str} (a : okS x) (b : okS y) (h : x.length + y.length ≤ sizeLine) : okS (x ++ y) := by
  refine ⟨by rw [show (x ++ y).length = x.length + y.length from by show (x.cps ++ y.cps).size = _; rw [Array.size_append]; rfl]; exact h, ?_⟩
  have h1 := a.2
  have h2 := b.2
  unfold PyData.strOk at h1 h2 ⊢
  show (x.cps ++ y.cps).all _ = true
  rw [Array.all_append, h1, h2]; rfl
theorem okS.cut {x : Str} (a : okS x) (lo hi : Option Int) : okS (cutS x lo hi) := by
  refine ⟨Nat.le_trans (cutS_length _ _ _) a.1, ?_⟩
  have h1 := a.2
  unfold PyData.strOk at h1 ⊢
  unfold cutS
  rw [← Array.all_toList] at h1 ⊢
  rw [List.all_eq_true] at h1 ⊢
  intro c hc
  exact h1 c (List.mem_of_mem_drop (List.mem_of_mem_take hc))
theorem okS.one {x : Str} {i : Int} {c : Nat} (a : okS x) (h : atI x.cps.toList i = some c) : okS ⟨#[c]⟩ := by
  refine ⟨by show 1 ≤ sizeLine; decide, ?_⟩
  have h1 := a.2
  unfold PyData.strOk at h1 ⊢
  rw [← Array.all_toList] at h1 ⊢
  rw [List.all_eq_true] at h1 ⊢
  intro d hd
  have e : d = c := by simpa using hd
  subst e
  obtain ⟨j, _, hj, _⟩ := atI_get h
  exact h1 d (List.mem_of_getElem? hj)
/-! ### data as PyData -/
mutual
def pd : D → PyData
  | .none => .none
  | .bool b => .bool b
  | .int i => .int i
  | .str x => .str x
  | .tup ds => .tuple (pds ds)
  | .rol ds => .list (pds ds)
  | .ref _ => .none
  | .ty _ => .none
def pds : List D → List PyData
  | [] => []
  | d :: ds => pd d :: pds ds
end
mutual
/-- nothing that can change within; at most n deep -/
def pure? : Nat → D → Bool
  | _, .none => true
  | _, .bool _ => true
  | _, .int _ => true
  | _, .str _ => true
  | n + 1, .tup ds => pures? n ds
  | n + 1, .rol ds => pures? n ds
  | _, _ => false
def pures? : Nat → List D → Bool
  | _, [] => true
  | n, d :: ds => pure? n d && pures? n ds
end
theorem pures_all (n : Nat) : ∀ ds : List D, pures? n ds = ds.all (pure? n)
  | [] => by unfold pures?; rfl
  | d :: ds => by unfold pures?; rw [pures_all n ds]; rfl
mutual
theorem pd_depth : ∀ (n : Nat) (d : D), pure? n d = true → (pd d).depth ≤ n
  | n, .none, _ => by simp [pd, PyData.depth]
  | n, .bool _, _ => by simp [pd, PyData.depth]
  | n, .int _, _ => by simp [pd, PyData.depth]
  | n, .str _, _ => by simp [pd, PyData.depth]
  | 0, .tup ds, h => by simp [pure?] at h
  | n + 1, .tup ds, h => by
    have h' : pures? n ds = true := by simpa [pure?] using h
    have := pds_depth n ds h'
    simp only [pd, PyData.depth]; omega
  | 0, .rol ds, h => by simp [pure?] at h
  | n + 1, .rol ds, h => by
    have h' : pures? n ds = true := by simpa [pure?] using h
    have := pds_depth n ds h'
    simp only [pd, PyData.depth]; omega
  | n, .ref _, h => by simp [pure?] at h
  | n, .ty _, h => by simp [pure?] at h
theorem pds_depth : ∀ (n : Nat) (ds : List D), pures? n ds = true → PyData.depthAll (pds ds) ≤ n
  | n, [], _ => by simp [pds, PyData.depthAll]
  | n, d :: ds, h => by
    have h' : pure? n d = true ∧ pures? n ds = true := by simpa [pures?] using h
    have h1 := pd_depth n d h'.1
    have h2 := pds_depth n ds h'.2
    simp only [pds, PyData.depthAll]; omega
end
section
variable {K : PySem.W.Frag} {H : Hp}
mutual
theorem pd_dp : ∀ (n : Nat) (d : D) (v : V), pure? n d = true → RepV K H d v → Dp K H v (pd d) ∧ (pd d).canLay0 = true
  | _, .none, v, _, r => by cases (show v = _ from r); exact ⟨.non, by simp [pd, PyData.canLay0]⟩
  | _, .bool b, v, _, r => by cases (show v = _ from r); exact ⟨.bl b, by simp [pd, PyData.canLay0]⟩
  | _, .int b, v, _, r => by cases (show v = _ from r); exact ⟨.int b, by simp [pd, PyData.canLay0]⟩
  | _, .str b, v, _, r => by
    obtain ⟨rfl, ok⟩ := (show v = _ ∧ okS b from r)
    exact ⟨.str b, by simp only [pd, PyData.canLay0]; exact ok.2⟩
  | 0, .tup ds, v, h, r => by simp [pure?] at h
  | n + 1, .tup ds, v, h, r => by
    have h' : pures? n ds = true := by simpa [pure?] using h
    obtain ⟨a, vs, rfl, s, q⟩ := r
    obtain ⟨x, y⟩ := pds_dp n ds vs h' q
    exact ⟨by simp only [pd]; exact .tup s x, by simp only [pd, PyData.canLay0]; exact y⟩
  | 0, .rol ds, v, h, r => by simp [pure?] at h
  | n + 1, .rol ds, v, h, r => by
    have h' : pures? n ds = true := by simpa [pure?] using h
    obtain ⟨a, vs, rfl, s, q⟩ := r
    obtain ⟨x, y⟩ := pds_dp n ds vs h' q
    exact ⟨by simp only [pd]; exact .lst s.sq x, by simp only [pd, PyData.canLay0]; exact y⟩
  | n, .ref _, v, h, r => by simp [pure?] at h
  | n, .ty _, v, h, r => by simp [pure?] at h
theorem pds_dp : ∀ (n : Nat) (ds : List D) (vs : List V), pures? n ds = true → RepVs K H ds vs → DpAll K H vs (pds ds) ∧ PyData.canLayAll0 (pds ds) = true
  | n, [], vs, _, r => by cases (show vs = [] from r); exact ⟨by simp only [pds]; exact .nil, by simp [pds, PyData.canLayAll0]⟩
  | n, d :: ds, vs, h, r => by
    have h' : pure? n d = true ∧ pures? n ds = true := by simpa [pures?] using h
    obtain ⟨v, rr, rfl, r1, r2⟩ := r
    obtain ⟨a, b⟩ := pd_dp n d v h'.1 r1
    obtain ⟨c, e⟩ := pds_dp n ds rr h'.2 r2
    exact ⟨by simp only [pds]; exact .cons a c, by simp only [pds, PyData.canLayAll0, b, e]; rfl⟩
end
/-- a list that stands in the heap, or data: as PyData -/
def viewL (ds : List D) : Option PyData := if pures? 60 ds = true then some (.list (pds ds)) else none
def viewP (d : D) : Option PyData := if pure? 60 d = true then some (pd d) else none
def viewO : Option MO → Option PyData
  | some (.lst ds) => viewL ds
  | none => none
def view (h : MH) : D → Option PyData
  | .ref a => viewO (h a)
  | .none => viewP .none
  | .bool b => viewP (.bool b)
  | .int b => viewP (.int b)
  | .str b => viewP (.str b)
  | .tup b => viewP (.tup b)
  | .rol b => viewP (.rol b)
  | .ty _ => none
theorem viewP_dp {d : D} {v : V} {x : PyData} (r : RepV K H d v) (e : viewP d = some x) : Dp K H v x ∧ SeqAt.shaped x = true := by
  unfold viewP at e
  by_cases p : pure? 60 d = true
  · rw [if_pos p] at e
    cases e
    obtain ⟨a, b⟩ := pd_dp 60 d v p r
    refine ⟨a, ?_⟩
    unfold SeqAt.shaped
    rw [b, decide_eq_true (Nat.le_trans (pd_depth 60 d p) (by decide))]; rfl
  · rw [if_neg p] at e; cases e
theorem view_dp {h : MH} (hH : RepH K h H) : ∀ {d : D} {v : V} {x : PyData}, RepV K H d v → view h d = some x → Dp K H v x ∧ SeqAt.shaped x = true
  | .none, _, _, r, e => viewP_dp r e
  | .bool _, _, _, r, e => viewP_dp r e
  | .int _, _, _, r, e => viewP_dp r e
  | .str _, _, _, r, e => viewP_dp r e
  | .tup _, _, _, r, e => viewP_dp r e
  | .rol _, _, _, r, e => viewP_dp r e
  | .ty _, _, _, _, e => by cases e
  | .ref a, v, x, r, e => by
    have r' : v = .ref a := r
    subst r'
    have e : viewO (h a) = some x := e
    cases q : h a with
    | none => rw [q] at e; cases e
    | some o =>
      cases o with
      | lst ds =>
        rw [q] at e
        have e : viewL ds = some x := e
        unfold viewL at e
        by_cases p : pures? 60 ds = true
        · rw [if_pos p] at e
          cases e
          obtain ⟨vs, eH, rv⟩ := hH a _ q
          obtain ⟨a1, b1⟩ := pds_dp 60 ds vs p rv
          refine ⟨.lst (SqL.of eH) a1, ?_⟩
          have := pds_depth 60 ds p
          have dd : PyData.depth (.list (pds ds)) ≤ 64 := by simp only [PyData.depth]; omega
          unfold SeqAt.shaped
          rw [decide_eq_true dd]
          simp only [PyData.canLay0, b1]; rfl
        · rw [if_neg p] at e; cases e
end
/-! ### operators -/
def mulOk (i j : Int) : Prop := (-(2 ^ 64) < i ∧ i < 2 ^ 64) ∨ (-(2 ^ 64) < j ∧ j < 2 ^ 64)
def divOk (j : Int) : Prop := 0 < j ∧ j.natAbs.log2 < 9000
def addD : R1 := fun x y h Q => match x, y with
  | .int i, .int j => Q (.int (i + j)) h
  | .str a, .str b => a.length + b.length ≤ sizeLine ∧ Q (.str (a ++ b)) h
  | .tup a, .tup b => a.length + b.length ≤ sizeLine ∧ Q (.tup (a ++ b)) h
  | .ref p, .ref q => ∃ a b, h p = some (.lst a) ∧ h q = some (.lst b) ∧ a.length + b.length ≤ sizeLine ∧ ∀ l, h l = none → Q (.ref l) (up h l (.lst (a ++ b)))
  | _, _ => False
def subD : R1 := fun x y h Q => match x, y with
  | .int i, .int j => Q (.int (i - j)) h
  | _, _ => False
def mulD : R1 := fun x y h Q => match x, y with
  | .int i, .int j => mulOk i j ∧ Q (.int (i * j)) h
  | .ref p, .int k => ∃ a, h p = some (.lst a) ∧ (-(2 ^ 63) ≤ k ∧ k < 2 ^ 63) ∧ a.length * k.toNat ≤ sizeLine ∧ ∀ l, h l = none → Q (.ref l) (up h l (.lst (List.replicate k.toNat a).flatten))
  | _, _ => False
def fdivD : R1 := fun x y h Q => match x, y with
  | .int i, .int j => divOk j ∧ Q (.int (i / j)) h
  | _, _ => False
def modD : R1 := fun x y h Q => match x, y with
  | .int i, .int j => 0 < j ∧ Q (.int (i % j)) h
  | _, _ => False
def powD : R1 := fun x y h Q => match x, y with
  | .int i, .int j => CPow i j ∧ Q (.int (i ^ j.toNat)) h
  | _, _ => False
def shlD : R1 := fun x y h Q => match x, y with
  | .int i, .int j => CPow i j ∧ Q (.int (i * 2 ^ j.toNat)) h
  | _, _ => False
def shrD : R1 := fun x y h Q => match x, y with
  | .int i, .int j => 0 ≤ j ∧ Q (.int (i / 2 ^ j.toNat)) h
  | _, _ => False
def andD : R1 := fun x y h Q => match x, y with
  | .int i, .int j => Q (.int (Builtin.bitAnd i j)) h
  | _, _ => False
section
variable {K : PySem.W.Frag} {h : MH} {H : Hp} {Q : KD} {QV : VK}
theorem Cl.int (c : Cl K h H Q QV) (hH : RepH K h H) {i : Int} (q : Q (.int i) h) : QV (.int i) H := c (.int i) h _ H Stp.refl hH rfl q
theorem Cl.bl (c : Cl K h H Q QV) (hH : RepH K h H) {i : Bool} (q : Q (.bool i) h) : QV (.bl i) H := c (.bool i) h _ H Stp.refl hH rfl q
theorem Cl.non (c : Cl K h H Q QV) (hH : RepH K h H) (q : Q .none h) : QV .non H := c .none h _ H Stp.refl hH rfl q
theorem Cl.str (c : Cl K h H Q QV) (hH : RepH K h H) {x : Str} (o : okS x) (q : Q (.str x) h) : QV (.str x) H := c (.str x) h _ H Stp.refl hH ⟨rfl, o⟩ q
theorem Cl.val (c : Cl K h H Q QV) (hH : RepH K h H) {d : D} {v : V} (r : RepV K H d v) (q : Q d h) : QV v H := c d h _ H Stp.refl hH r q
theorem Cl.new (c : Cl K h H Q QV) (hH : RepH K h H) {l : Addr} (n : H l = none) {ds : List D} {vs : List V} (r : RepVs K H ds vs) (q : Q (.ref l) (up h l (.lst ds))) : QV (.ref l) (upd H l (.lst vs)) :=
  c (.ref l) _ _ _ (Stp.new n) (hH.new n r) rfl q
theorem Cl.tup (c : Cl K h H Q QV) (hH : RepH K h H) {l : Addr} (n : H l = none) {ds : List D} {vs : List V} (r : RepVs K H ds vs) (q : Q (.tup ds) h) : QV (.ref l) (upd H l (.tup vs)) :=
  c (.tup ds) h _ _ (Stp.hide n) (hH.hide n) ⟨l, vs, rfl, .inl (.inl upd_same), RepVs.mono (Stp.mo hH (Stp.hide n)) _ r⟩ q
theorem Cl.write (c : Cl K h H Q QV) (hH : RepH K h H) {l : Addr} {d0 : List D} (e : h l = some (.lst d0)) {ds : List D} {vs : List V} (r : RepVs K H ds vs) {d : D} {v : V} (rv : RepV K H d v) (q : Q d (up h l (.lst ds))) : QV v (upd H l (.lst vs)) :=
  c d _ _ _ (Stp.write e) (hH.write e r) (RepV.mono (Stp.mo hH (Stp.write (u := .lst ds) e)) _ rv) q
end
section
variable {X : Cx}
theorem od_add : OpR X (binaryOp .Add) (lowR X.K addD) := opR_of fun x y H QV ⟨d, e, h, Q, rx, ry, hH, hr, hc⟩ => by
  cases d <;> cases e <;> try exact hr.elim
  case int.int i j => exact ⟨_, op_add, i, j, rx, ry, hc.int hH hr⟩
  case str.str a b =>
    obtain ⟨rx, ox⟩ := rx
    obtain ⟨ry, oy⟩ := ry
    exact ⟨_, op_add_str, a, b, rx, ry, hr.1, hc.str hH (ox.app oy hr.1) hr.2⟩
  case tup.tup a b =>
    obtain ⟨p, vs, rfl, s1, r1⟩ := rx
    obtain ⟨q, us, rfl, s2, r2⟩ := ry
    have hl : vs.length + us.length ≤ sizeLine := by rw [← r1.length, ← r2.length]; exact hr.1
    have rr : RepVs X.K H (a ++ b) (vs ++ us) := .of (P2.append r1.pair r2.pair)
    refine ⟨_, op_catA, p, q, vs, us, rfl, rfl, s1, s2, hl, fun z => ?_, fun _ z => ?_, fun _ _ l n => hc.tup hH n rr hr.2⟩
    · subst z
      have e : a = [] := List.eq_nil_of_length_eq_zero r1.length
      subst e
      exact hc.val hH (d := .tup b) ⟨q, us, rfl, s2, r2⟩ hr.2
    · subst z
      have e : b = [] := List.eq_nil_of_length_eq_zero r2.length
      subst e
      have q2 := hr.2
      rw [List.append_nil] at q2
      exact hc.val hH (d := .tup a) ⟨p, vs, rfl, s1, r1⟩ q2
  case ref.ref p q =>
    obtain ⟨a, b, e1, e2, hl, k⟩ := hr
    cases (show x = _ from rx)
    cases (show y = _ from ry)
    obtain ⟨vs, f1, r1⟩ := hH _ _ e1
    obtain ⟨us, f2, r2⟩ := hH _ _ e2
    refine ⟨_, op_cat, p, q, vs, us, rfl, rfl, f1, f2, by rw [← r1.length, ← r2.length]; exact hl, fun l n => ?_⟩
    exact hc.new hH n (.of (P2.append r1.pair r2.pair)) (k l (hH.nofresh n))
theorem od_sub : OpR X (binaryOp .Sub) (lowR X.K subD) := opR_of fun x y H QV ⟨d, e, h, Q, rx, ry, hH, hr, hc⟩ => by
  cases d <;> cases e <;> try exact hr.elim
  case int.int i j => exact ⟨_, op_sub, i, j, rx, ry, hc.int hH hr⟩
theorem P2.rep {α β : Type} {R : α → β → Prop} {xs : List α} {us : List β} (h : Paired R xs us) : ∀ k : Nat, Paired R (List.replicate k xs).flatten (List.replicate k us).flatten
  | 0 => .nil
  | k + 1 => by rw [List.replicate_succ, List.replicate_succ, List.flatten_cons, List.flatten_cons]; exact P2.append h (P2.rep h k)
theorem od_mul : OpR X (binaryOp .Mult) (lowR X.K mulD) := opR_of fun x y H QV ⟨d, e, h, Q, rx, ry, hH, hr, hc⟩ => by
  cases d <;> cases e <;> try exact hr.elim
  case int.int i j => exact ⟨_, op_mul, i, j, rx, ry, hr.1, hc.int hH hr.2⟩
  case ref.int p k =>
    obtain ⟨a, e1, hk, hl, q⟩ := hr
    cases (show x = _ from rx)
    cases (show y = _ from ry)
    obtain ⟨vs, f1, r1⟩ := hH _ _ e1
    refine ⟨_, op_rep, p, k, vs, rfl, rfl, f1, hk.1, hk.2, by rw [← r1.length]; exact hl, fun l n => ?_⟩
    exact hc.new hH n (.of (P2.rep r1.pair _)) (q l (hH.nofresh n))
theorem od_fdiv : OpR X (binaryOp .FloorDiv) (lowR X.K fdivD) := opR_of fun x y H QV ⟨d, e, h, Q, rx, ry, hH, hr, hc⟩ => by
  cases d <;> cases e <;> try exact hr.elim
  case int.int i j => exact ⟨_, op_fdivW, i, j, rx, ry, hr.1, hc.int hH hr.2⟩
theorem od_mod : OpR X (binaryOp .Mod) (lowR X.K modD) := opR_of fun x y H QV ⟨d, e, h, Q, rx, ry, hH, hr, hc⟩ => by
  cases d <;> cases e <;> try exact hr.elim
  case int.int i j => exact ⟨_, op_mod, i, j, rx, ry, hr.1, hc.int hH hr.2⟩
theorem od_pow : OpR X (binaryOp .Pow) (lowR X.K powD) := opR_of fun x y H QV ⟨d, e, h, Q, rx, ry, hH, hr, hc⟩ => by
  cases d <;> cases e <;> try exact hr.elim
  case int.int i j => exact ⟨_, op_pow, i, j, rx, ry, hr.1, hc.int hH hr.2⟩
theorem od_shl : OpR X (binaryOp .LShift) (lowR X.K shlD) := opR_of fun x y H QV ⟨d, e, h, Q, rx, ry, hH, hr, hc⟩ => by
  cases d <;> cases e <;> try exact hr.elim
  case int.int i j => exact ⟨_, op_shl, i, j, rx, ry, hr.1, hc.int hH hr.2⟩
theorem od_shr : OpR X (binaryOp .RShift) (lowR X.K shrD) := opR_of fun x y H QV ⟨d, e, h, Q, rx, ry, hH, hr, hc⟩ => by
  cases d <;> cases e <;> try exact hr.elim
  case int.int i j => exact ⟨_, op_shr, i, j, rx, ry, hr.1, hc.int hH hr.2⟩
theorem od_and : OpR X (binaryOp .BitAnd) (lowR X.K andD) := opR_of fun x y H QV ⟨d, e, h, Q, rx, ry, hH, hr, hc⟩ => by
  cases d <;> cases e <;> try exact hr.elim
  case int.int i j => exact ⟨_, op_and, i, j, rx, ry, hc.int hH hr⟩
/-! ### comparisons -/
def eqvO : Option PyData → Option PyData → (Bool → Prop) → Prop
  | some x, some y, k => k (PyData.eqv x y)
  | _, _, _ => False
def eqD : R1 := fun x y h Q => eqvO (view h x) (view h y) fun b => Q (.bool b) h
def neD : R1 := fun x y h Q => eqvO (view h x) (view h y) fun b => Q (.bool (!b)) h
theorem od_eq (hu : X.A.units + 64 < cLine) : OpR X (compareOp .Eq) (lowR X.K eqD) := opR_of fun x y H QV ⟨d, e, h, Q, rx, ry, hH, hr, hc⟩ => by
  unfold eqD at hr
  cases e1 : view h d with
  | none => rw [e1] at hr; exact hr.elim
  | some p =>
    cases e2 : view h e with
    | none => rw [e1, e2] at hr; exact hr.elim
    | some q =>
      rw [e1, e2] at hr
      obtain ⟨a1, b1⟩ := view_dp hH rx e1
      obtain ⟨a2, b2⟩ := view_dp hH ry e2
      exact ⟨_, op_eqD hu, p, q, a1, a2, b1, b2, hc.bl hH hr⟩
theorem od_ne (hu : X.A.units + 64 < cLine) : OpR X (compareOp .NotEq) (lowR X.K neD) := opR_of fun x y H QV ⟨d, e, h, Q, rx, ry, hH, hr, hc⟩ => by
  unfold neD at hr
  cases e1 : view h d with
  | none => rw [e1] at hr; exact hr.elim
  | some p =>
    cases e2 : view h e with
    | none => rw [e1, e2] at hr; exact hr.elim
    | some q =>
      rw [e1, e2] at hr
      obtain ⟨a1, b1⟩ := view_dp hH rx e1
      obtain ⟨a2, b2⟩ := view_dp hH ry e2
      exact ⟨_, op_neD hu, p, q, a1, a2, b1, b2, hc.bl hH hr⟩
def ltS (a b : Str) : Bool := decide (a.cps.toList < b.cps.toList)
def ltD : R1 := fun x y h Q => match x, y with
  | .int i, .int j => Q (.bool (decide (i < j))) h
  | .str i, .str j => Q (.bool (ltS i j)) h
  | _, _ => False
def leD : R1 := fun x y h Q => match x, y with
  | .int i, .int j => Q (.bool (decide (i ≤ j))) h
  | .str i, .str j => Q (.bool (!ltS j i)) h
  | _, _ => False
def gtD : R1 := fun x y h Q => match x, y with
  | .int i, .int j => Q (.bool (decide (j < i))) h
  | .str i, .str j => Q (.bool (ltS j i)) h
  | _, _ => False
def geD : R1 := fun x y h Q => match x, y with
  | .int i, .int j => Q (.bool (decide (j ≤ i))) h
  | .str i, .str j => Q (.bool (!ltS i j)) h
  | _, _ => False
theorem od_lt : OpR X (compareOp .Lt) (lowR X.K ltD) := opR_of fun x y H QV ⟨d, e, h, Q, rx, ry, hH, hr, hc⟩ => by
  cases d <;> cases e <;> try exact hr.elim
  case int.int i j => exact ⟨_, op_lt, i, j, rx, ry, hc.bl hH hr⟩
  case str.str i j => exact ⟨_, op_lt_str, i, j, rx.1, ry.1, hc.bl hH hr⟩
theorem od_le : OpR X (compareOp .LtE) (lowR X.K leD) := opR_of fun x y H QV ⟨d, e, h, Q, rx, ry, hH, hr, hc⟩ => by
  cases d <;> cases e <;> try exact hr.elim
  case int.int i j => exact ⟨_, op_le, i, j, rx, ry, hc.bl hH hr⟩
  case str.str i j => exact ⟨_, op_le_str, i, j, rx.1, ry.1, hc.bl hH hr⟩
theorem od_gt : OpR X (compareOp .Gt) (lowR X.K gtD) := opR_of fun x y H QV ⟨d, e, h, Q, rx, ry, hH, hr, hc⟩ => by
  cases d <;> cases e <;> try exact hr.elim
  case int.int i j => exact ⟨_, op_gt, i, j, rx, ry, hc.bl hH hr⟩
  case str.str i j => exact ⟨_, op_gt_str, i, j, rx.1, ry.1, hc.bl hH hr⟩
theorem od_ge : OpR X (compareOp .GtE) (lowR X.K geD) := opR_of fun x y H QV ⟨d, e, h, Q, rx, ry, hH, hr, hc⟩ => by
  cases d <;> cases e <;> try exact hr.elim
  case int.int i j => exact ⟨_, op_ge, i, j, rx, ry, hc.bl hH hr⟩
  case str.str i j => exact ⟨_, op_ge_str, i, j, rx.1, ry.1, hc.bl hH hr⟩
end
end DL
namespace DL
open PySem PySem.Spec PyProof.Rows L2
/-- the items of what stands in a row -/
def seqO : Option MO → Option (List D)
  | some (.lst ds) => some ds
  | none => none
def seqOf (h : MH) : D → Option (List D)
  | .tup ds => some ds
  | .rol ds => some ds
  | .ref a => seqO (h a)
  | .none => none
  | .bool _ => none
  | .int _ => none
  | .str _ => none
  | .ty _ => none
theorem seq_rep {K : PySem.W.Frag} {h : MH} {H : Hp} (hH : RepH K h H) : ∀ {d : D} {v : V} {ds : List D}, RepV K H d v → seqOf h d = some ds → ∃ a vs, v = .ref a ∧ RepVs K H ds vs ∧ (SqL K H a vs ∨ SqT K H a vs)
  | .tup _, _, _, r, e => by
    obtain ⟨a, vs, ev, s, q⟩ := r
    cases e
    exact ⟨a, vs, ev, q, .inr s⟩
  | .rol _, _, _, r, e => by
    obtain ⟨a, vs, ev, s, q⟩ := r
    cases e
    exact ⟨a, vs, ev, q, .inl s.sq⟩
  | .none, _, _, _, e => by cases e
  | .bool _, _, _, _, e => by cases e
  | .int _, _, _, _, e => by cases e
  | .str _, _, _, _, e => by cases e
  | .ty _, _, _, _, e => by cases e
  | .ref a, v, ds, r, e => by
    cases (show v = .ref a from r)
    have e : seqO (h a) = some ds := e
    cases q : h a with
    | none => rw [q] at e; cases e
    | some o =>
      cases o with
      | lst ds' =>
        rw [q] at e
        cases e
        obtain ⟨vs, eH, rv⟩ := hH a _ q
        exact ⟨a, vs, rfl, rv, .inl (SqL.of eH)⟩
/-! ### in -/
def flatD : D → Bool
  | .none => true
  | .bool _ => true
  | .int _ => true
  | .str _ => true
  | _ => false
def eqF (x y : D) : Bool := PyData.eqv (pd x) (pd y)
section
variable {K : PySem.W.Frag} {h : MH} {H : Hp}
theorem flat_rep {d : D} {v : V} (r : RepV K H d v) (f : flatD d = true) : flatV v = true := by
  cases d <;> first | (cases f; done) | skip
  all_goals first | (cases (show v = _ from r); rfl) | (obtain ⟨rfl, _⟩ := r; rfl)
theorem eqV_rep {d e : D} {v u : V} (r : RepV K H d v) (q : RepV K H e u) (f : flatD d = true) (g : flatD e = true) : eqV v u = eqF d e := by
  cases d <;> first | (cases f; done) | skip
  all_goals cases e <;> first | (cases g; done) | skip
  all_goals
    (first | cases (show v = _ from r) | obtain ⟨rfl, _⟩ := r)
    (first | cases (show u = _ from q) | obtain ⟨rfl, _⟩ := q)
    simp [eqV, eqF, pd, PyData.eqv]
theorem all_flat : ∀ {ds : List D} {vs : List V}, Paired (RepV K H) ds vs → ds.all flatD = true → vs.all flatV = true
  | _, _, .nil, _ => rfl
  | _, _, .cons r t, f => by
    rw [List.all_cons, Bool.and_eq_true] at f ⊢
    exact ⟨flat_rep r f.1, all_flat t f.2⟩
theorem inV_rep {d : D} {v : V} (r : RepV K H d v) (f : flatD d = true) : ∀ {ds : List D} {vs : List V}, Paired (RepV K H) ds vs → ds.all flatD = true → inV v vs = ds.any fun z => eqF z d
  | _, _, .nil, _ => rfl
  | _, _, .cons q t, g => by
    rw [List.all_cons, Bool.and_eq_true] at g
    have ih := inV_rep r f t g.2
    unfold inV at ih ⊢
    rw [List.any_cons, List.any_cons, eqV_rep q r g.1 f, ih]
end
def inS (a z : Str) : Bool := !(Builtin.Str.occurrences z a 0 z.length 1).isEmpty
theorem inS_one (c : Nat) (z : Str) : inS ⟨#[c]⟩ z = decide (c ∈ z.cps.toList) := PySem.StrLaws.found_one z c
def inSeq (x : D) (h : MH) (k : Bool → Prop) : Option (List D) → Prop
  | some ds => flatD x = true ∧ ds.all flatD = true ∧ k (ds.any fun z => eqF z x)
  | none => False
def inL (x : D) (h : MH) (k : Bool → Prop) : Option PyData → Option PyData → Prop
  | some p, some (.list ps) => k (ps.any fun z => PyData.eqv z p)
  | _, _ => False
def inD : R1 := fun x y h Q => match x, y with
  | .str a, .str z => Q (.bool (inS a z)) h
  | x, y => inSeq x h (fun b => Q (.bool b) h) (seqOf h y)
def ninD : R1 := fun x y h Q => match x, y with
  | .str a, .str z => Q (.bool (!inS a z)) h
  | x, y => inSeq x h (fun b => Q (.bool (!b)) h) (seqOf h y)
section
variable {X : Cx}
theorem in_seq {neg : Bool} {d e : D} {x y : V} {h : MH} {H : Hp} {k : Bool → Prop} {QV : VK} (rx : RepV X.K H d x) (ry : RepV X.K H e y) (hH : RepH X.K h H) (hr : inSeq d h k (seqOf h e)) (hk : ∀ b, k b → QV (.bl (if neg then !b else b)) H) : rIn X.K neg x y H QV := by
  cases q : seqOf h e with
  | none => rw [q] at hr; exact hr.elim
  | some ds =>
    rw [q] at hr
    obtain ⟨f, g, hq⟩ := hr
    obtain ⟨a, vs, rfl, rv, hs⟩ := seq_rep hH ry q
    refine ⟨a, vs, rfl, hs, flat_rep rx f, all_flat rv.pair g, ?_⟩
    rw [inV_rep rx f rv.pair g]
    exact hk _ hq
theorem od_in : OpR X (compareOp .In) (lowR X.K inD) := opR_of fun x y H QV ⟨d, e, h, Q, rx, ry, hH, hr, hc⟩ => by
  by_cases z : ∃ a b, d = .str a ∧ e = .str b
  · obtain ⟨a, b, rfl, rfl⟩ := z
    exact ⟨_, op_in_str, a, b, rx.1, ry.1, hc.bl hH hr⟩
  · refine ⟨_, op_in_seq, in_seq (neg := false) (k := fun b => Q (.bool b) h) rx ry hH ?_ fun b q => hc.bl hH q⟩
    cases d <;> cases e <;> first | exact hr | exact absurd ⟨_, _, rfl, rfl⟩ z
theorem od_notIn : OpR X (compareOp .NotIn) (lowR X.K ninD) := opR_of fun x y H QV ⟨d, e, h, Q, rx, ry, hH, hr, hc⟩ => by
  by_cases z : ∃ a b, d = .str a ∧ e = .str b
  · obtain ⟨a, b, rfl, rfl⟩ := z
    exact ⟨_, op_notIn_str, a, b, rx.1, ry.1, hc.bl hH hr⟩
  · refine ⟨_, op_notIn_seq, in_seq (neg := true) (k := fun b => Q (.bool (!b)) h) rx ry hH ?_ fun b q => hc.bl hH q⟩
    cases d <;> cases e <;> first | exact hr | exact absurd ⟨_, _, rfl, rfl⟩ z
/-! ### is None -/
def isNone : D → Bool
  | .none => true
  | _ => false
theorem none_rep {K : PySem.W.Frag} {H : Hp} {d : D} {v : V} (r : RepV K H d v) : decide (v = .non) = isNone d := by
  cases d with
  | none => cases (show v = _ from r); rfl
  | bool _ => cases (show v = _ from r); rfl
  | int _ => cases (show v = _ from r); rfl
  | ref _ => cases (show v = _ from r); rfl
  | ty _ => cases (show v = _ from r); rfl
  | str _ => obtain ⟨rfl, _⟩ := r; rfl
  | tup _ => obtain ⟨a, vs, rfl, _⟩ := r; rfl
  | rol _ => obtain ⟨a, vs, rfl, _⟩ := r; rfl
def isD : R1 := fun x y h Q => match y with
  | .none => Q (.bool (isNone x)) h
  | _ => False
def nisD : R1 := fun x y h Q => match y with
  | .none => Q (.bool (!isNone x)) h
  | _ => False
theorem od_is : OpR X (compareOp .Is) (lowR X.K isD) := opR_of fun x y H QV ⟨d, e, h, Q, rx, ry, hH, hr, hc⟩ => by
  cases e <;> try exact hr.elim
  cases (show y = _ from ry)
  refine ⟨_, op_isN, rfl, ?_⟩
  rw [none_rep rx]
  exact hc.bl hH hr
theorem od_isnot : OpR X (compareOp .IsNot) (lowR X.K nisD) := opR_of fun x y H QV ⟨d, e, h, Q, rx, ry, hH, hr, hc⟩ => by
  cases e <;> try exact hr.elim
  cases (show y = _ from ry)
  refine ⟨_, op_notN, rfl, ?_⟩
  rw [none_rep rx]
  exact hc.bl hH hr
end
/-! ### subscripts -/
def atD (h : MH) (i : Int) (Q : KD) : Option (List D) → Prop
  | some ds => match atI ds i with
    | some d => Q d h
    | none => False
  | none => False
def atS (z : Str) (i : Int) (h : MH) (Q : KD) : Prop := match atI z.cps.toList i with
  | some c => Q (.str ⟨#[c]⟩) h
  | none => False
def ixD : R1 := fun x y h Q => match x, y with
  | .str z, .int i => atS z i h Q
  | x, .int i => atD h i Q (seqOf h x)
  | _, _ => False
theorem atI_rep {α β : Type} {R : α → β → Prop} {xs : List α} {ys : List β} (p : Paired R xs ys) {i : Int} {x : α} (e : atI xs i = some x) : ∃ y, atI ys i = some y ∧ R x y := by
  unfold atI at e ⊢
  rw [← p.length]
  cases q : ixN xs.length i with
  | none => rw [q] at e; cases e
  | some j =>
    rw [q] at e
    exact P2.get p e
section
variable {X : Cx}
theorem ixR_of {r' : R2} (h : ∀ x y H Q, r' x y H Q → ∃ r, IxR X r ∧ r x y H Q) : IxR X r' := fun value slice pins s σ H x y v u Q I rx ry hr hs =>
  let ⟨r, ho, hq⟩ := h x y H Q hr
  ho value slice pins s σ H x y v u Q I rx ry hq hs
theorem xd_ix : IxR X (lowR X.K ixD) := ixR_of fun x y H QV ⟨d, e, h, Q, rx, ry, hH, hr, hc⟩ => by
  cases e with
  | int i =>
    cases (show y = _ from ry)
    have seqCase : atD h i Q (seqOf h d) → ∃ r, IxR X r ∧ r x (.int i) H QV := fun hr => by
      cases q : seqOf h d with
      | none => rw [q] at hr; exact hr.elim
      | some ds =>
        rw [q] at hr
        unfold atD at hr
        simp only at hr
        cases e : atI ds i with
        | none => rw [e] at hr; exact hr.elim
        | some z =>
          rw [e] at hr
          obtain ⟨a, vs, rfl, rv, hs⟩ := seq_rep hH rx q
          obtain ⟨w, hw, rw'⟩ := atI_rep rv.pair e
          rcases hs with hs | hs
          · exact ⟨_, ix_list, a, vs, i, w, rfl, rfl, hs, hw, hc.val hH rw' hr⟩
          · exact ⟨_, ix_tup, a, vs, i, w, rfl, rfl, hs, hw, hc.val hH rw' hr⟩
    cases d with
    | str z =>
      obtain ⟨rfl, ok⟩ := rx
      have hr : atS z i h Q := hr
      unfold atS at hr
      cases e : atI z.cps.toList i with
      | none => rw [e] at hr; exact hr.elim
      | some c =>
        rw [e] at hr
        exact ⟨_, ix_str, z, i, c, rfl, rfl, ok.1, e, hc.str hH (ok.one e) hr⟩
    | _ => exact seqCase hr
  | _ => cases d <;> exact hr.elim
theorem de_ix {a b : Expr} {ta tb : E1} {pos : Pos} (ha : DE X a ta) (hb : DE X b tb) (hs : PlainIx b) : DE X (.Subscript a b pos) (dOp ixD ta tb) := weakE (pe_ix xd_ix ha hb hs) fun _ _ _ h => low_op h
/-! ### slices -/
abbrev O1 := Sl → MH → (Option Int → MH → Prop) → Prop
def ClO (K : PySem.W.Frag) (h : MH) (H : Hp) (Q : Option Int → MH → Prop) (QV : Option Int → Hp → Prop) : Prop := ∀ b h' H', Stp h H h' H' → RepH K h' H' → Q b h' → QV b H'
def lowO (K : PySem.W.Frag) (t : O1) : TO := fun σV H QV => ∃ σ h Q, RepE K H σ σV ∧ RepH K h H ∧ t σ h Q ∧ ClO K h H Q QV
abbrev DO (X : Cx) (e : Option Expr) (t : O1) : Prop := PO X e (lowO X.K t)
def dNoPart : O1 := fun _ h Q => Q none h
def dPart (t : E1) : O1 := fun σ h Q => t σ h fun x h1 => match x with | .int i => Q (some i) h1 | _ => False
theorem weakO {e : Option Expr} {t t' : TO} (p : PO X e t) (w : ∀ σ H Q, t' σ H Q → t σ H Q) : PO X e t' := ⟨fun pins s σ H Q I h => p.run pins s σ H Q I (w σ H Q h)⟩
theorem do_none : DO X none dNoPart := weakO po_none fun σV H QV ⟨σ, h, Q, hE, hH, ht, hc⟩ => hc none h H Stp.refl hH ht
theorem do_some {e : Expr} {t : E1} (p : DE X e t) : DO X (some e) (dPart t) := weakO (po_some p) fun σV H QV ⟨σ, h, Q, hE, hH, ht, hc⟩ =>
  ⟨σ, h, _, hE, hH, ht, fun d h' v H' s' r' rv q => by
    cases d with
    | int i => exact ⟨i, rv, hc (some i) h' H' s' r' q⟩
    | _ => exact q.elim⟩
def cutD (ds : List D) (lo hi : Option Int) : List D := (ds.drop (HT.sIx ds.length 0 lo)).take (HT.sIx ds.length ds.length hi - HT.sIx ds.length 0 lo)
def slL (h : MH) (lo hi : Option Int) (Q : KD) : Option MO → Prop
  | some (.lst ds) => ∀ l, h l = none → Q (.ref l) (up h l (.lst (cutD ds lo hi)))
  | none => False
def slD (x : D) (lo hi : Option Int) (h : MH) (Q : KD) : Prop := match x with
  | .str z => Q (.str (cutS z lo hi)) h
  | .tup ds => Q (.tup (cutD ds lo hi)) h
  | .rol ds => ∀ l, h l = none → Q (.ref l) (up h l (.lst (cutD ds lo hi)))
  | .ref a => slL h lo hi Q (h a)
  | _ => False
def dSl (t : E1) (tl tu : O1) : E1 := fun σ h Q => t σ h fun x h1 => tl σ h1 fun lo h2 => tu σ h2 fun hi h3 => slD x lo hi h3 Q
def lowSl (K : PySem.W.Frag) (r : D → Option Int → Option Int → MH → KD → Prop) : V → Option Int → Option Int → Hp → VK → Prop := fun x lo hi H QV => ∃ d h Q, RepV K H d x ∧ RepH K h H ∧ r d lo hi h Q ∧ Cl K h H Q QV
theorem slR_of {r' : V → Option Int → Option Int → Hp → VK → Prop} (h : ∀ x lo hi H Q, r' x lo hi H Q → ∃ r, SlR X r ∧ r x lo hi H Q) : SlR X r' := fun pins s σ H x v vl vu lo hi sl Q I rx hs pl pu hr =>
  let ⟨r, ho, hq⟩ := h x lo hi H Q hr
  ho pins s σ H x v vl vu lo hi sl Q I rx hs pl pu hq
theorem cut_rep {K : PySem.W.Frag} {H : Hp} {ds : List D} {vs : List V} (r : RepVs K H ds vs) (lo hi : Option Int) : RepVs K H (cutD ds lo hi) (cutV vs lo hi) := by
  unfold cutD cutV
  rw [r.length]
  exact .of (P2.take _ (P2.drop _ r.pair))
theorem cut_whole {α : Type} (vs : List α) (i j : Nat) (h : i = 0 ∧ j = vs.length) : (vs.drop i).take (j - i) = vs := by
  obtain ⟨rfl, rfl⟩ := h
  simp
theorem xd_sl : SlR X (lowSl X.K slD) := slR_of fun x lo hi H QV ⟨d, h, Q, rx, hH, hr, hc⟩ => by
  cases d with
  | str z =>
    obtain ⟨rfl, ok⟩ := rx
    exact ⟨_, sl_str, z, rfl, ok.1, hc.str hH (ok.cut lo hi) hr⟩
  | tup ds =>
    obtain ⟨a, vs, rfl, s, r⟩ := rx
    have rc := cut_rep r lo hi
    refine ⟨_, sl_tupA, a, vs, rfl, s, fun z => ?_, fun _ l n => hc.tup hH n rc hr⟩
    have e : cutD ds lo hi = ds := by
      unfold cutD
      rw [r.length]
      exact cut_whole ds _ _ ⟨z.1, by rw [r.length]; exact z.2⟩
    have hr : Q (.tup (cutD ds lo hi)) h := hr
    rw [e] at hr
    exact hc.val hH (d := .tup ds) ⟨a, vs, rfl, s, r⟩ hr
  | rol ds =>
    obtain ⟨a, vs, rfl, s, r⟩ := rx
    exact ⟨_, sl_list, a, vs, rfl, s.sq, fun l n => hc.new hH n (cut_rep r lo hi) (hr l (hH.nofresh n))⟩
  | ref a =>
    cases (show x = _ from rx)
    have hr : slL h lo hi Q (h a) := hr
    cases q : h a with
    | none => rw [q] at hr; exact hr.elim
    | some o =>
      cases o with
      | lst ds =>
        rw [q] at hr
        obtain ⟨vs, e, r⟩ := hH _ _ q
        exact ⟨_, sl_list, a, vs, rfl, SqL.of e, fun l n => hc.new hH n (cut_rep r lo hi) (hr l (hH.nofresh n))⟩
  | _ => exact hr.elim
theorem de_slice {e : Expr} {lo hi : Option Expr} {te : E1} {tl tu : O1} {p2 pos : Pos} (he : DE X e te) (hl : DO X lo tl) (hu : DO X hi tu) : DE X (.Subscript e (.Slice lo hi none p2) pos) (dSl te tl tu) :=
  weakE (pe_slice xd_sl he hl hu) fun σV H QV ⟨σ, h, Q, hE, hH, ht, hc⟩ => by
    refine ⟨σ, h, _, hE, hH, ht, fun x h1 v1 H1 s1 hH1 r1 q1 => ?_⟩
    refine ⟨σ, h1, _, hE.mono (Stp.mo hH s1), hH1, q1, fun l h2 H2 s2 hH2 q2 => ?_⟩
    refine ⟨σ, h2, _, (hE.mono (Stp.mo hH s1)).mono (Stp.mo hH1 s2), hH2, q2, fun u h3 H3 s3 hH3 q3 => ?_⟩
    exact ⟨x, h3, Q, RepV.mono ((Stp.mo hH1 s2).trans (Stp.mo hH2 s3)) _ r1, hH3, q3, hc.step (s1.trans (s2.trans s3))⟩
/-! ### one-place operators -/
def negD (x : D) (h : MH) (Q : KD) : Prop := match x with
  | .int i => Q (.int (-i)) h
  | _ => False
def dUn (r : D → MH → KD → Prop) (t : E1) : E1 := fun σ h Q => t σ h fun x h1 => r x h1 Q
theorem de_neg {a : Expr} {ta : E1} {pos : Pos} (ha : DE X a ta) : DE X (.UnaryOp .USub a pos) (dUn negD ta) := weakE (pe_un un_neg ha) fun σV H QV ⟨σ, h, Q, hE, hH, ht, hc⟩ =>
  ⟨σ, h, _, hE, hH, ht, fun d h' v H' s' r' rv q => by
    cases d with
    | int i => exact ⟨i, rv, (hc.step s').int r' q⟩
    | _ => exact q.elim⟩
/-! ### tests -/
def asB (Q : Bool → MH → Prop) : KD := fun x h => match x with | .bool k => Q k h | _ => False
def dTest (t : E1) : T1 := fun σ h Q => t σ h (asB Q)
theorem asB_cl {K : PySem.W.Frag} {h : MH} {H : Hp} {Q : Bool → MH → Prop} {QV : Bool → Hp → Prop} (hc : ClB K h H Q QV) : Cl K h H (asB Q) fun v H' => ∃ k, v = .bl k ∧ QV k H' := fun d h' v H' s' r' rv q => by
  cases d with
  | bool k => exact ⟨k, rv, hc k h' H' s' r' q⟩
  | _ => exact q.elim
theorem dt_cmpR {op : CmpOp} {r : R1} {a b : Expr} {ta tb : E1} {pos : Pos} (ho : OpR X (compareOp op) (lowR X.K r)) (ha : DE X a ta) (hb : DE X b tb) (hm : behindInMarks op b = false) : DT X (.Compare a [op] [b] pos) (dTest (dOp r ta tb)) :=
  weakT (pt_cmpR ho ha hb hm) fun σV H QV ⟨σ, h, Q, hE, hH, ht, hc⟩ => low_op ⟨σ, h, asB Q, hE, hH, ht, asB_cl hc⟩
def truL (h : MH) (Q : Bool → MH → Prop) : Option (List D) → Prop
  | some ds => Q (!ds.isEmpty) h
  | none => False
def truD (x : D) (h : MH) (Q : Bool → MH → Prop) : Prop := match x with
  | .none => Q false h
  | .bool b => Q b h
  | .int i => Q (i != 0) h
  | .str z => Q (z.length != 0) h
  | x => truL h Q (seqOf h x)
def dTru (t : E1) : T1 := fun σ h Q => t σ h fun x h1 => truD x h1 Q
theorem isEmpty_rep {α β : Type} {R : α → β → Prop} {xs : List α} {ys : List β} (p : Paired R xs ys) : (!ys.isEmpty) = !xs.isEmpty := by cases p <;> rfl
theorem dt_tru {a : Expr} {ta : E1} (ha : DE X a ta) (he : ∀ whole, isTrue a X.env whole = (do let v ← whole; standAt a.pos; holding [v] (truthy v)) := by intro _; rfl) : DT X a (dTru ta) :=
  weakT (pt_truth ha he) fun σV H QV ⟨σ, h, Q, hE, hH, ht, hc⟩ => ⟨σ, h, _, hE, hH, ht, fun d h' v H' s' hH' rv q => by
    have fin : ∀ k, Q k h' → QV k H' := fun k z => hc k h' H' s' hH' z
    have sq : truL h' Q (seqOf h' d) → ∃ k, TruV X.K v H' k ∧ QV k H' := fun q => by
      cases e : seqOf h' d with
      | none => rw [e] at q; exact q.elim
      | some ds =>
        rw [e] at q
        obtain ⟨a, vs, rfl, r, hs⟩ := seq_rep hH' rv e
        refine ⟨_, ?_, fin _ q⟩
        rcases hs with hs | hs
        · exact .inl ⟨vs, hs, (isEmpty_rep r.pair).symm⟩
        · exact .inr (.inl ⟨vs, hs, (isEmpty_rep r.pair).symm⟩)
    cases d with
    | none => cases (show v = _ from rv); exact ⟨_, rfl, fin _ q⟩
    | bool b => cases (show v = _ from rv); exact ⟨_, rfl, fin _ q⟩
    | int b => cases (show v = _ from rv); exact ⟨_, rfl, fin _ q⟩
    | str z =>
      obtain ⟨rfl, ok⟩ := rv
      refine ⟨_, ⟨ok.1, rfl⟩, ?_⟩
      have e : (((z.length : Nat) : Int) != 0) = (z.length != 0) := by
        by_cases y : z.length = 0
        · rw [y]; rfl
        · rw [bne_iff_ne.mpr y, bne_iff_ne.mpr (by omega)]
      rw [e]
      exact fin _ q
    | _ => exact sq q⟩
def dAndT (t u : T1) : T1 := fun σ h Q => t σ h fun c h1 => if c = true then u σ h1 Q else Q false h1
def dOrT (t u : T1) : T1 := fun σ h Q => t σ h fun c h1 => if c = true then Q true h1 else u σ h1 Q
def dNotT (t : T1) : T1 := fun σ h Q => t σ h fun c h1 => Q (!c) h1
abbrev DW (X : Cx) (e : Expr) (t : T1) : Prop := PW X e (lowT X.K t)
theorem weakW {e : Expr} {t t' : TT} (p : PW X e t) (w : ∀ σ H Q, t' σ H Q → t σ H Q) : PW X e t' := ⟨fun wh pins s σ H Q I h => p.run wh pins s σ H Q I (w σ H Q h)⟩
theorem dw_and1 {a : Expr} {ta : T1} {pos : Pos} (ha : DT X a ta) : DW X (.BoolOp .And [a] pos) ta := pw_and1 ha
theorem dw_or1 {a : Expr} {ta : T1} {pos : Pos} (ha : DT X a ta) : DW X (.BoolOp .Or [a] pos) ta := pw_or1 ha
theorem dw_and {a b : Expr} {rest : List Expr} {ta tb : T1} {pos : Pos} (ha : DT X a ta) (hb : DW X (.BoolOp .And (b :: rest) pos) tb) : DW X (.BoolOp .And (a :: b :: rest) pos) (dAndT ta tb) :=
  weakW (pw_and ha hb) fun σV H QV ⟨σ, h, Q, hE, hH, ht, hc⟩ => ⟨σ, h, _, hE, hH, ht, fun c h1 H1 s1 hH1 q => by
    cases c with
    | true => rw [if_pos rfl] at q ⊢; exact ⟨σ, h1, Q, hE.mono (Stp.mo hH s1), hH1, q, hc.step s1⟩
    | false => rw [if_neg Bool.false_ne_true] at q ⊢; exact hc _ _ _ s1 hH1 q⟩
theorem dw_or {a b : Expr} {rest : List Expr} {ta tb : T1} {pos : Pos} (ha : DT X a ta) (hb : DW X (.BoolOp .Or (b :: rest) pos) tb) : DW X (.BoolOp .Or (a :: b :: rest) pos) (dOrT ta tb) :=
  weakW (pw_or ha hb) fun σV H QV ⟨σ, h, Q, hE, hH, ht, hc⟩ => ⟨σ, h, _, hE, hH, ht, fun c h1 H1 s1 hH1 q => by
    cases c with
    | false => rw [if_neg Bool.false_ne_true] at q ⊢; exact ⟨σ, h1, Q, hE.mono (Stp.mo hH s1), hH1, q, hc.step s1⟩
    | true => rw [if_pos rfl] at q ⊢; exact hc _ _ _ s1 hH1 q⟩
theorem dt_w {e : Expr} {t : T1} (p : DW X e t) : DT X e t := PW.pt p
theorem dt_not {a : Expr} {ta : T1} {pos : Pos} (ha : DT X a ta) : DT X (.UnaryOp .Not a pos) (dNotT ta) :=
  weakT (pt_not ha) fun σV H QV ⟨σ, h, Q, hE, hH, ht, hc⟩ => ⟨σ, h, _, hE, hH, ht, fun c h1 H1 s1 hH1 q => hc _ _ _ s1 hH1 q⟩
/-! .. as values -/
def dAndV (t u : E1) : E1 := fun σ h Q => t σ h (asB fun c h1 => if c = true then u σ h1 Q else Q (.bool false) h1)
def dOrV (t u : E1) : E1 := fun σ h Q => t σ h (asB fun c h1 => if c = true then Q (.bool true) h1 else u σ h1 Q)
def dNotV (t : E1) : E1 := fun σ h Q => t σ h (asB fun c h1 => Q (.bool (!c)) h1)
theorem de_one {op} {a : Expr} {t : E1} {pos : Pos} (h : DE X a t) : DE X (.BoolOp op [a] pos) t := pe_one h
theorem de_and {a b : Expr} {rest : List Expr} {ta tb : E1} {pos : Pos} (ha : DE X a ta) (hb : DE X (.BoolOp .And (b :: rest) pos) tb) : DE X (.BoolOp .And (a :: b :: rest) pos) (dAndV ta tb) :=
  weakE (pe_and ha hb) fun σV H QV ⟨σ, h, Q, hE, hH, ht, hc⟩ => ⟨σ, h, _, hE, hH, ht, fun d h1 v H1 s1 hH1 rv q => by
    cases d with
    | bool c =>
      refine ⟨c, rv, ?_⟩
      have q : if c = true then tb σ h1 Q else Q (.bool false) h1 := q
      cases c with
      | true => rw [if_pos rfl] at q ⊢; exact ⟨σ, h1, Q, hE.mono (Stp.mo hH s1), hH1, q, hc.step s1⟩
      | false => rw [if_neg Bool.false_ne_true] at q ⊢; exact (hc.step s1).bl hH1 q
    | _ => exact q.elim⟩
theorem de_or {a b : Expr} {rest : List Expr} {ta tb : E1} {pos : Pos} (ha : DE X a ta) (hb : DE X (.BoolOp .Or (b :: rest) pos) tb) : DE X (.BoolOp .Or (a :: b :: rest) pos) (dOrV ta tb) :=
  weakE (pe_or ha hb) fun σV H QV ⟨σ, h, Q, hE, hH, ht, hc⟩ => ⟨σ, h, _, hE, hH, ht, fun d h1 v H1 s1 hH1 rv q => by
    cases d with
    | bool c =>
      refine ⟨c, rv, ?_⟩
      have q : if c = true then Q (.bool true) h1 else tb σ h1 Q := q
      cases c with
      | false => rw [if_neg Bool.false_ne_true] at q ⊢; exact ⟨σ, h1, Q, hE.mono (Stp.mo hH s1), hH1, q, hc.step s1⟩
      | true => rw [if_pos rfl] at q ⊢; exact (hc.step s1).bl hH1 q
    | _ => exact q.elim⟩
theorem de_not {a : Expr} {ta : E1} {pos : Pos} (ha : DE X a ta) : DE X (.UnaryOp .Not a pos) (dNotV ta) :=
  weakE (pe_not ha) fun σV H QV ⟨σ, h, Q, hE, hH, ht, hc⟩ => ⟨σ, h, _, hE, hH, ht, fun d h1 v H1 s1 hH1 rv q => by
    cases d with
    | bool c => exact ⟨c, rv, (hc.step s1).bl hH1 q⟩
    | _ => exact q.elim⟩
def dIf (t : T1) (ta tb : E1) : E1 := fun σ h Q => t σ h fun c h1 => if c = true then ta σ h1 Q else tb σ h1 Q
theorem de_ifExp {c a b : Expr} {tc : T1} {ta tb : E1} {pos : Pos} (hc : DT X c tc) (ha : DE X a ta) (hb : DE X b tb) : DE X (.IfExp c a b pos) (dIf tc ta tb) :=
  weakE (pe_ifExp hc ha hb) fun σV H QV ⟨σ, h, Q, hE, hH, ht, hc⟩ => ⟨σ, h, _, hE, hH, ht, fun c h1 H1 s1 hH1 q => by
    cases c with
    | true => rw [if_pos rfl] at q ⊢; exact ⟨σ, h1, Q, hE.mono (Stp.mo hH s1), hH1, q, hc.step s1⟩
    | false => rw [if_neg Bool.false_ne_true] at q ⊢; exact ⟨σ, h1, Q, hE.mono (Stp.mo hH s1), hH1, q, hc.step s1⟩⟩
/-! a < b < c -/
def dChain (r r' : R1) (ta tb tc : E1) : E1 := fun σ h Q => ta σ h fun x h1 => tb σ h1 fun y h2 => r x y h2 (asB fun k h3 => if k = true then tc σ h3 fun z h4 => r' y z h4 Q else Q (.bool false) h3)
end
end DL
namespace DL
open PySem PySem.Spec PyProof.Rows L2
/-! ### statements -/
structure Nd where
  nx : Sl → MH → Prop
  rt : KD
  bk : Sl → MH → Prop := fun _ _ => False
  ct : Sl → MH → Prop := fun _ _ => False
abbrev S1 := Nd → Sl → MH → Prop
def ClN (K : PySem.W.Frag) (h : MH) (H : Hp) (n : Sl → MH → Prop) (nV : L2.St → Hp → Prop) : Prop := ∀ σ' h' σV' H', Stp h H h' H' → RepE K H' σ' σV' → RepH K h' H' → n σ' h' → nV σV' H'
structure ClS (K : PySem.W.Frag) (h : MH) (H : Hp) (D : Nd) (DV : Ends) : Prop where
  nx : ClN K h H D.nx DV.nx
  rt : Cl K h H D.rt DV.rt
  bk : ClN K h H D.bk DV.bk
  ct : ClN K h H D.ct DV.ct
theorem ClN.step {K : PySem.W.Frag} {h h1 : MH} {H H1 : Hp} {n : Sl → MH → Prop} {nV : L2.St → Hp → Prop} (s : Stp h H h1 H1) (c : ClN K h H n nV) : ClN K h1 H1 n nV := fun a b d e s' x y z => c a b d e (s.trans s') x y z
theorem ClS.step {K : PySem.W.Frag} {h h1 : MH} {H H1 : Hp} {D : Nd} {DV : Ends} (s : Stp h H h1 H1) (c : ClS K h H D DV) : ClS K h1 H1 D DV := ⟨c.nx.step s, c.rt.step s, c.bk.step s, c.ct.step s⟩
def lowS (K : PySem.W.Frag) (t : S1) : TS := fun DV σV H => ∃ D σ h, RepE K H σ σV ∧ RepH K h H ∧ t D σ h ∧ ClS K h H D DV
theorem weakS {X : Cx} {e : Stmt} {t t' : TS} (p : PS X e t) (w : ∀ D σ H, t' D σ H → t D σ H) : PS X e t' := ⟨fun pins s σ H D I h => p.run pins s σ H D I (w D σ H h)⟩
theorem weakSs {X : Cx} {e : List Stmt} {t t' : TS} (p : PSs X e t) (w : ∀ D σ H, t' D σ H → t D σ H) : PSs X e t' := ⟨fun pins s σ H D I h => p.run pins s σ H D I (w D σ H h)⟩
abbrev DS (X : Cx) (st : Stmt) (t : S1) : Prop := PS X st (lowS X.K t)
abbrev DSs (X : Cx) (st : List Stmt) (t : S1) : Prop := PSs X st (lowS X.K t)
section
variable {X : Cx}
def dNext : S1 := fun D σ h => D.nx σ h
def dSeq (t u : S1) : S1 := fun D σ h => t { D with nx := u D } σ h
theorem dss_nil : DSs X [] dNext := weakSs pss_nil fun DV σV H ⟨D, σ, h, hE, hH, ht, hc⟩ => hc.nx σ h σV H Stp.refl hE hH ht
theorem dss_one {st : Stmt} {t : S1} (a : DS X st t) : DSs X [st] t := pss_one a
theorem dss_cons {st : Stmt} {rest : List Stmt} {t u : S1} (a : DS X st t) (b : DSs X rest u) : DSs X (st :: rest) (dSeq t u) := weakSs (pss_cons a b) fun DV σV H ⟨D, σ, h, hE, hH, ht, hc⟩ =>
  ⟨{ D with nx := u D }, σ, h, hE, hH, ht, ⟨fun σ' h' σV' H' s' e' r' q => ⟨D, σ', h', e', r', q, hc.step s'⟩, hc.rt, hc.bk, hc.ct⟩⟩
def dBrk : S1 := fun D σ h => D.bk σ h
def dCnt : S1 := fun D σ h => D.ct σ h
theorem ds_pass {pos : Pos} : DS X (.Pass pos) dNext := weakS ps_pass fun DV σV H ⟨D, σ, h, hE, hH, ht, hc⟩ => hc.nx σ h σV H Stp.refl hE hH ht
theorem ds_break {pos : Pos} : DS X (.Break pos) dBrk := weakS ps_break fun DV σV H ⟨D, σ, h, hE, hH, ht, hc⟩ => hc.bk σ h σV H Stp.refl hE hH ht
theorem ds_continue {pos : Pos} : DS X (.Continue pos) dCnt := weakS ps_continue fun DV σV H ⟨D, σ, h, hE, hH, ht, hc⟩ => hc.ct σ h σV H Stp.refl hE hH ht
theorem ds_doc {x j pos pos'} : DS X (.Expr (.Constant (.str x) j pos) pos') dNext := weakS ps_doc fun DV σV H ⟨D, σ, h, hE, hH, ht, hc⟩ => hc.nx σ h σV H Stp.refl hE hH ht
def dDrop (t : E1) : S1 := fun D σ h => t σ h fun _ h1 => D.nx σ h1
theorem ds_expr {e : Expr} {t : E1} {pos : Pos} (p : DE X e t) (hs : swapsWith e none pos.line X.env = pure false := by rfl) : DS X (.Expr e pos) (dDrop t) := weakS (ps_expr p hs) fun DV σV H ⟨D, σ, h, hE, hH, ht, hc⟩ =>
  ⟨σ, h, _, hE, hH, ht, fun d h' v H' s' r' rv q => hc.nx σ h' σV H' s' (hE.mono (Stp.mo hH s')) r' q⟩
def dRet (t : E1) : S1 := fun D σ h => t σ h D.rt
theorem ds_ret {e : Expr} {t : E1} {pos : Pos} (p : DE X e t) : DS X (.Return (some e) pos) (dRet t) := weakS (ps_ret p) fun DV σV H ⟨D, σ, h, hE, hH, ht, hc⟩ => ⟨σ, h, _, hE, hH, ht, hc.rt⟩
def dRetN : S1 := fun D _ h => D.rt .none h
theorem ds_retN {pos : Pos} : DS X (.Return none pos) dRetN := weakS ps_retN fun DV σV H ⟨D, σ, h, hE, hH, ht, hc⟩ => hc.rt.non hH ht
def dIfS (c : T1) (t u : S1) : S1 := fun D σ h => c σ h fun b h1 => if b = true then t D σ h1 else u D σ h1
theorem ds_if {c : Expr} {a b : List Stmt} {tc : T1} {t u : S1} {pos : Pos} (hc : DT X c tc) (ha : DSs X a t) (hb : DSs X b u) : DS X (.If c a b pos) (dIfS tc t u) := weakS (ps_if hc ha hb) fun DV σV H ⟨D, σ, h, hE, hH, ht, hc⟩ =>
  ⟨σ, h, _, hE, hH, ht, fun b h' H' s' r' q => by
    cases b with
    | true => rw [if_pos rfl] at q ⊢; exact ⟨D, σ, h', hE.mono (Stp.mo hH s'), r', q, hc.step s'⟩
    | false => rw [if_neg Bool.false_ne_true] at q ⊢; exact ⟨D, σ, h', hE.mono (Stp.mo hH s'), r', q, hc.step s'⟩⟩
/-! ### targets; P: what the stores leave alone -/
structure Pr where
  rel : L2.St → L2.St → Prop
  re : ∀ a, rel a a
  tr : ∀ a b c, rel a b → rel b c → rel a c
def P0 : Pr := ⟨fun _ _ => True, fun _ => trivial, fun _ _ _ _ _ => trivial⟩
def Pw (vs : List Nat) : Pr := ⟨fun a b => wipe b vs = wipe a vs, fun _ => rfl, fun a b c h k => k.trans h⟩
abbrev G1 := D → Sl → MH → (Sl → MH → Prop) → Prop
abbrev Gs1 := List D → Sl → MH → (Sl → MH → Prop) → Prop
def ClG (K : PySem.W.Frag) (P : Pr) (σV : L2.St) (h : MH) (H : Hp) (n : Sl → MH → Prop) (nV : L2.St → Hp → Prop) : Prop := ∀ σ' h' σV' H', P.rel σV σV' → Stp h H h' H' → RepE K H' σ' σV' → RepH K h' H' → n σ' h' → nV σV' H'
def lowG (K : PySem.W.Frag) (P : Pr) (g : G1) : TG := fun v σV H QV => ∃ d σ h Q, RepV K H d v ∧ RepE K H σ σV ∧ RepH K h H ∧ g d σ h Q ∧ ClG K P σV h H Q QV
def lowGs (K : PySem.W.Frag) (P : Pr) (g : Gs1) : TGs := fun vs σV H QV => ∃ ds σ h Q, RepVs K H ds vs ∧ RepE K H σ σV ∧ RepH K h H ∧ g ds σ h Q ∧ ClG K P σV h H Q QV
abbrev DG (X : Cx) (P : Pr) (e : Expr) (g : G1) : Prop := PG X e (lowG X.K P g)
abbrev DGs (X : Cx) (P : Pr) (es : List Expr) (g : Gs1) : Prop := PGs X es (lowGs X.K P g)
theorem weakG {e : Expr} {t t' : TG} (p : PG X e t) (w : ∀ v σ H Q, t' v σ H Q → t v σ H Q) : PG X e t' := ⟨fun pins s σ H v u Q I r h => p.run pins s σ H v u Q I r (w v σ H Q h)⟩
theorem weakGs {e : List Expr} {t t' : TGs} (p : PGs X e t) (w : ∀ v σ H Q, t' v σ H Q → t v σ H Q) : PGs X e t' := ⟨fun pins s σ H v u Q I r h => p.run pins s σ H v u Q I r (w v σ H Q h)⟩
def gN (i : Nat) : G1 := fun d σ h Q => Q (put σ i (some d)) h
def OkAt (P : Pr) (i : Nat) : Prop := ∀ σ v, P.rel σ (σ.set i (some v))
theorem okAt0 {i : Nat} : OkAt P0 i := fun _ _ => trivial
theorem wipe_put {i : Nat} {x : Option V} : ∀ (vs : List Nat) (σ : L2.St), i ∈ vs → wipe (σ.set i x) vs = wipe σ vs
  | [], _, h => by cases h
  | v :: vs, σ, h => by
    have out : ∀ (vs : List Nat) (τ : L2.St), i ∉ vs → wipe (τ.set i x) vs = (wipe τ vs).set i x := by
      intro vs
      induction vs with
      | nil => intro τ _; rfl
      | cons u us ih =>
        intro τ hn
        rw [List.mem_cons, not_or] at hn
        show (wipe (τ.set i x) us).set u none = ((wipe τ us).set u none).set i x
        rw [ih τ hn.2, List.set_comm _ _ hn.1]
    show (wipe (σ.set i x) vs).set v none = (wipe σ vs).set v none
    by_cases m : i ∈ vs
    · rw [wipe_put vs σ m]
    · have e : i = v := by
        rcases List.mem_cons.mp h with e | e
        · exact e
        · exact absurd e m
      subst e
      rw [out vs σ m, List.set_set]
theorem okAtW {vs : List Nat} {i : Nat} (h : i ∈ vs) : OkAt (Pw vs) i := fun σ v => wipe_put vs σ h
theorem dg_name (i : Nat) {P : Pr} (ok : OkAt P i) {x : Str} {pos : Pos} (hN : X.N.Nodup) (hi : X.N[i]? = some x) (hx : Loc X.env.scope x) (hf : X.fn x = true ∨ X.env.scope.names.lookup x = some .local := by first | exact .inl rfl | exact .inr rfl | assumption) : DG X P (.Name x pos) (gN i) :=
  weakG (pg_name hN hi hx hf) fun v σV H QV ⟨d, σ, h, Q, rv, hE, hH, hg, hc⟩ => hc _ h _ H (ok σV v) Stp.refl (hE.put rv) hH hg
def gNl : Gs1 := fun ds σ h Q => match ds with
  | [] => Q σ h
  | _ :: _ => False
def gCn (g : G1) (gs : Gs1) : Gs1 := fun ds σ h Q => match ds with
  | [] => False
  | d :: r => g d σ h fun σ' h' => gs r σ' h' Q
theorem dgs_nil {P : Pr} : DGs X P [] gNl := weakGs pgs_nil fun v σV H QV ⟨ds, σ, h, Q, rv, hE, hH, hg, hc⟩ => by
  cases ds with
  | nil => exact ⟨rv, hc σ h σV H (P.re _) Stp.refl hE hH hg⟩
  | cons d r => exact hg.elim
theorem dgs_cons {P : Pr} {e : Expr} {es : List Expr} {g : G1} {gs : Gs1} (a : DG X P e g) (b : DGs X P es gs) (hs : (assignEach (e :: es) X.env).map (·.2) = assign e X.env :: (assignEach es X.env).map (·.2) := by rfl) : DGs X P (e :: es) (gCn g gs) :=
  weakGs (pgs_cons a b hs) fun v σV H QV ⟨ds, σ, h, Q, rv, hE, hH, hg, hc⟩ => by
    cases ds with
    | nil => exact hg.elim
    | cons d r =>
      obtain ⟨w, us, rfl, r1, r2⟩ := rv
      refine ⟨w, us, rfl, d, σ, h, _, r1, hE, hH, hg, fun σ' h' σV' H' p' s' e' r' q => ?_⟩
      exact ⟨r, σ', h', Q, RepVs.mono (Stp.mo hH s') _ r2, e', r', q, fun σ2 h2 σV2 H2 p2 s2 e2 z2 q2 => hc σ2 h2 σV2 H2 (P.tr _ _ _ p' p2) (s'.trans s2) e2 z2 q2⟩
def gTp (n : Nat) (gs : Gs1) : G1 := fun d σ h Q => match d with
  | .tup ds => ds.length = n ∧ gs ds σ h Q
  | _ => False
theorem dg_tup {P : Pr} {es : List Expr} {k : Nat} {gs : Gs1} {n : Nat} {pos : Pos} (hc : X.calm = true) (a : DGs X P es gs) (hn : (assignEach es X.env).length = n := by rfl) (hst : (assignEach es X.env).findIdx? (·.1) = none := by rfl) : DG X P (.Tuple es k pos) (gTp n gs) :=
  weakG (pg_tup hc a hn hst) fun v σV H QV ⟨d, σ, h, Q, rv, hE, hH, hg, hc⟩ => by
    cases d with
    | tup ds =>
      obtain ⟨a, vs, rfl, s, r⟩ := rv
      exact ⟨a, vs, rfl, s, by rw [← r.length]; exact hg.1, ds, σ, h, Q, r, hE, hH, hg.2, hc⟩
    | _ => exact hg.elim
/-! .. a place of a list -/
abbrev Set1 := D → D → D → MH → (MH → Prop) → Prop
def ClM (K : PySem.W.Frag) (h : MH) (H : Hp) (n : MH → Prop) (nV : Hp → Prop) : Prop := ∀ h' H', Stp h H h' H' → RepH K h' H' → n h' → nV H'
def lowSet (K : PySem.W.Frag) (r : Set1) : TSet := fun o i v H QV => ∃ a b d h Q, RepV K H a o ∧ RepV K H b i ∧ RepV K H d v ∧ RepH K h H ∧ r a b d h Q ∧ ClM K h H Q QV
def setL (p : Addr) (k : Int) (d : D) (h : MH) (Q : MH → Prop) : Option MO → Prop
  | some (.lst xs) => match ixN xs.length k with
    | some j => Q (up h p (.lst (xs.set j d)))
    | none => False
  | none => False
def setD : Set1 := fun o i d h Q => match o, i with
  | .ref p, .int k => setL p k d h Q (h p)
  | _, _ => False
theorem pset_of {r' : TSet} (h : ∀ o i v H Q, r' o i v H Q → ∃ r, PSet X r ∧ r o i v H Q) : PSet X r' := fun pins s σ H o i v ov iv u Q I ro ri rv hr =>
  let ⟨r, ho, hq⟩ := h o i v H Q hr
  ho pins s σ H o i v ov iv u Q I ro ri rv hq
theorem xd_set : PSet X (lowSet X.K setD) := pset_of fun o i v H QV ⟨a, b, d, h, Q, ro, ri, rv, hH, hr, hc⟩ => by
  cases a <;> cases b <;> try exact hr.elim
  case ref.int p k =>
    cases (show o = _ from ro)
    cases (show i = _ from ri)
    have hr : setL p k d h Q (h p) := hr
    cases q : h p with
    | none => rw [q] at hr; exact hr.elim
    | some u =>
      cases u with
      | lst xs =>
        rw [q] at hr
        unfold setL at hr
        simp only at hr
        obtain ⟨vs, e, r⟩ := hH _ _ q
        cases e2 : ixN xs.length k with
        | none => rw [e2] at hr; exact hr.elim
        | some j =>
          rw [e2] at hr
          exact ⟨_, set_list, p, vs, k, j, rfl, rfl, e, by rw [← r.length]; exact e2, hc _ _ (Stp.write q) (hH.write q (.of (P2.set rv j r.pair))) hr⟩
def gSb (to ti : E1) (t : Set1) : G1 := fun d σ h Q => to σ h fun o h1 => ti σ h1 fun i h2 => t o i d h2 fun h3 => Q σ h3
theorem dg_sub {P : Pr} {o i : Expr} {to ti : E1} {pos : Pos} (ho : DE X o to) (hi : DE X i ti)
    (ha : ∀ v, assign (.Subscript o i pos) X.env v = (do
      let ov ← holding [v] (eval o X.env)
      let iv ← holding [v, ov] (eval i X.env)
      standAt pos
      holding [v, ov, iv] (setItem ov iv v)
      release [v, ov, iv] []) := by intro _; rfl) : DG X P (.Subscript o i pos) (gSb to ti setD) :=
  weakG (pg_sub ho hi xd_set ha) fun v σV H QV ⟨d, σ, h, Q, rv, hE, hH, hg, hc⟩ => by
    refine ⟨σ, h, _, hE, hH, hg, fun a h1 x H1 s1 hH1 r1 q1 => ?_⟩
    refine ⟨σ, h1, _, hE.mono (Stp.mo hH s1), hH1, q1, fun b h2 y H2 s2 hH2 r2 q2 => ?_⟩
    have m1 := Stp.mo hH s1
    have m2 := Stp.mo hH1 s2
    refine ⟨a, b, d, h2, _, RepV.mono m2 _ r1, r2, RepV.mono (m1.trans m2) _ rv, hH2, q2, fun h3 H3 s3 hH3 q3 => ?_⟩
    exact hc σ h3 σV H3 (P.re _) (s1.trans (s2.trans s3)) (hE.mono ((m1.trans m2).trans (Stp.mo hH2 s3))) hH3 q3
/-! ### assignments -/
def dAsg (t : E1) (g : G1) : S1 := fun D σ h => t σ h fun x h1 => g x σ h1 D.nx
theorem ds_asg {tg e : Expr} {t : E1} {g : G1} {pos : Pos} (he : DE X e t) (hg : DG X P0 tg g) (hs : swapsWithSole [tg] e pos.line X.env = pure false := by rfl) (hw : swappedStores [tg] e X.env = pure none := by rfl)
    (h1 : (assignEach [tg] X.env).map (·.2) = [assign tg X.env] := by rfl) : DS X (.Assign [tg] e pos) (dAsg t g) := weakS (ps_asg he hg hs hw h1) fun DV σV H ⟨D, σ, h, hE, hH, ht, hc⟩ =>
  ⟨σ, h, _, hE, hH, ht, fun d h' v H' s' r' rv q => ⟨d, σ, h', _, rv, hE.mono (Stp.mo hH s'), r', q, fun σ2 h2 σV2 H2 _ s2 e2 z2 q2 => hc.nx σ2 h2 σV2 H2 (s'.trans s2) e2 z2 q2⟩⟩
theorem ds_set (i : Nat) {x : Str} {e : Expr} {t : E1} {pos pos' : Pos} (hN : X.N.Nodup) (hi : X.N[i]? = some x) (hx : Loc X.env.scope x) (he : DE X e t) (hs : swapsWith e (some (.Name x pos')) pos.line X.env = pure false := by rfl) (hf : X.fn x = true ∨ X.env.scope.names.lookup x = some .local := by first | exact .inl rfl | exact .inr rfl | assumption) :
    DS X (.Assign [.Name x pos'] e pos) (dAsg t (gN i)) := weakS (ps_set hN hi hx he hs hf) fun DV σV H ⟨D, σ, h, hE, hH, ht, hc⟩ =>
  ⟨σ, h, _, hE, hH, ht, fun d h' v H' s' r' rv q => hc.nx _ h' _ H' s' ((hE.mono (Stp.mo hH s')).put rv) r' q⟩
def dPar (i j : Nat) (ta : A1) : S1 := fun D σ h => ta σ h fun ds h1 => match ds with
  | [d, e] => D.nx (put (put σ i (some d)) j (some e)) h1
  | _ => False
theorem ds_par {i j : Nat} {x y : Str} {a b : Expr} {ta : A1} {px py pt pos : Pos} {kt k2 pt2} (hc : X.calm = true) (hN : X.N.Nodup) (hi : X.N[i]? = some x) (hj : X.N[j]? = some y) (hij : i ≠ j)
    (hx : X.env.scope.names.lookup x = some .local) (hy : X.env.scope.names.lookup y = some .local) (ha : DA X [a, b] ta)
    (hw : swappedStores [.Tuple [.Name x px, .Name y py] kt pt] (.Tuple [a, b] k2 pt2) X.env = pure (some [x, y]))
    (hs : swapsWithSole [.Tuple [.Name x px, .Name y py] kt pt] (.Tuple [a, b] k2 pt2) pos.line X.env = pure false := by rfl) :
    DS X (.Assign [.Tuple [.Name x px, .Name y py] kt pt] (.Tuple [a, b] k2 pt2) pos) (dPar i j ta) := weakS (ps_par hc hN hi hj hij hx hy ha hw hs) fun DV σV H ⟨D, σ, h, hE, hH, ht, hc⟩ =>
  ⟨σ, h, _, hE, hH, ht, fun ds h' vs H' s' r' rv q => by
    match ds, rv, q with
    | [], _, q => exact q.elim
    | [_], _, q => exact q.elim
    | _ :: _ :: _ :: _, _, q => exact q.elim
    | [d, e], rv, q =>
      obtain ⟨v, r, rfl, r1, v2, r2, rfl, r3, r4⟩ := rv
      cases (show r2 = [] from r4)
      exact ⟨v, v2, rfl, hc.nx _ h' _ H' s' (((hE.mono (Stp.mo hH s')).put r1).put r3) r' q⟩⟩
/-! x op= e -/
def lowIp (K : PySem.W.Frag) (r : R1) : TIp := lowR K r
def dAug (i : Nat) (t : E1) (r : R1) : S1 := fun D σ h => match nth σ i with
  | some x => t σ h fun y h1 => r x y h1 fun z h2 => D.nx (put σ i (some z)) h2
  | none => False
def iaddD : R1 := fun x y h Q => match x, y with
  | .int i, .int j => Q (.int (i + j)) h
  | .str a, .str b => a.length + b.length ≤ sizeLine ∧ Q (.str (a ++ b)) h
  | _, _ => False
theorem xd_iadd : PIp X .Add (lowIp X.K iaddD) := by
  intro pins s σ H x y v u Q I r1 r2 ⟨d, e, h, QD, rx, ry, hH, hr, hc⟩
  cases d <;> cases e <;> try exact hr.elim
  case int.int i j => exact ip_add pins s σ H x y v u Q I r1 r2 ⟨i, j, rx, ry, hc.int hH hr⟩
  case str.str a b =>
    obtain ⟨rfl, o1⟩ := rx
    obtain ⟨rfl, o2⟩ := ry
    exact iop_add_str pins s σ H _ _ v u Q I r1 r2 ⟨a, b, rfl, rfl, hr.1, hc.str hH (o1.app o2 hr.1) hr.2⟩
theorem xd_isub : PIp X .Sub (lowIp X.K subD) := by
  intro pins s σ H x y v u Q I r1 r2 ⟨d, e, h, QD, rx, ry, hH, hr, hc⟩
  cases d <;> cases e <;> try exact hr.elim
  case int.int i j => exact ip_sub pins s σ H x y v u Q I r1 r2 ⟨i, j, rx, ry, hc.int hH hr⟩
theorem ds_aug (i : Nat) {x : Str} {e : Expr} {t : E1} {op : Operator} {r : R1} {pos pos' : Pos} (hN : X.N.Nodup) (hi : X.N[i]? = some x) (hx : Loc X.env.scope x) (he : DE X e t) (ho : PIp X op (lowIp X.K r)) (hf : X.fn x = true ∨ X.env.scope.names.lookup x = some .local := by first | exact .inl rfl | exact .inr rfl | assumption) :
    DS X (.AugAssign (.Name x pos') op e pos) (dAug i t r) := weakS (ps_aug hN hi hx he ho hf) fun DV σV H ⟨D, σ, h, hE, hH, ht, hc⟩ => by
  unfold dAug at ht
  cases q : nth σ i with
  | none => rw [q] at ht; exact ht.elim
  | some d =>
    rw [q] at ht
    obtain ⟨v, e1, rv⟩ := hE.val i d q
    refine ⟨v, e1, σ, h, _, hE, hH, ht, fun e h1 u H1 s1 hH1 ru q1 => ?_⟩
    have m1 := Stp.mo hH s1
    refine ⟨d, e, h1, _, RepV.mono m1 _ rv, ru, hH1, q1, fun z h2 w H2 s2 hH2 rw' q2 => ?_⟩
    exact hc.nx _ h2 _ H2 (s1.trans s2) ((hE.mono (m1.trans (Stp.mo hH1 s2))).put rw') hH2 q2
/-! xs[i] op= e -/
def lowGet (K : PySem.W.Frag) (r : R1) : V → V → Hp → VK → Prop := lowR K r
def getL (i : Int) (h : MH) (Q : KD) : Option MO → Prop
  | some (.lst xs) => match atI xs i with
    | some d => 0 ≤ i ∧ Q d h
    | none => False
  | none => False
def getD1 : R1 := fun x y h Q => match x, y with
  | .ref p, .int i => getL i h Q (h p)
  | _, _ => False
theorem xd_get : PGet X (lowGet X.K getD1) := by
  intro pins s σ H o i ov iv Q I ro ri ⟨d, e, h, QD, rx, ry, hH, hr, hc⟩
  cases d <;> cases e <;> try exact hr.elim
  case ref.int p k =>
    cases (show o = _ from rx)
    cases (show i = _ from ry)
    have hr : getL k h QD (h p) := hr
    cases q : h p with
    | none => rw [q] at hr; exact hr.elim
    | some u =>
      cases u with
      | lst xs =>
        rw [q] at hr
        unfold getL at hr
        simp only at hr
        obtain ⟨vs, e, r⟩ := hH _ _ q
        cases e2 : atI xs k with
        | none => rw [e2] at hr; exact hr.elim
        | some z =>
          rw [e2] at hr
          obtain ⟨w, hw, rw'⟩ := atI_rep r.pair e2
          cases ro
          obtain ⟨t, rfl⟩ := ri
          obtain ⟨its, rv, pl, hz⟩ := I.list (SqL.of e)
          obtain ⟨j, j1, j2, j3, j4, j5⟩ := atI_get hw
          have hl := rv.length
          have hn := line63
          obtain ⟨uw, eu, ru⟩ := rv.get j2
          have hj : k.toNat = j := by
            rw [seqIndex_of hr.1 j5] at j1
            exact Option.some.inj j1
          exact wpAny_getItem_list pl.isList hr.1 (by omega) (by rw [hj]; simpa using eu) ⟨w, H, I, ru, hc.val hH rw' hr.2⟩
def dAugS (to ti te : E1) (r : R1) : S1 := fun D σ h => to σ h fun o h1 => ti σ h1 fun i h2 => getD1 o i h2 fun x h3 => te σ h3 fun y h4 => r x y h4 fun z h5 => setD o i z h5 fun h6 => D.nx σ h6
theorem ds_augS {o i e : Expr} {to ti te : E1} {op : Operator} {r : R1} {pos tpos : Pos} (ho : DE X o to) (hi : DE X i ti) (he : DE X e te) (hp : PIp X op (lowIp X.K r))
    (ha : ∀ ov iv new, augStore i ov iv new = (do holding [new, ov, iv] (setItem ov iv new); release [new, ov, iv] []; pure .next) := by intros; rfl) : DS X (.AugAssign (.Subscript o i tpos) op e pos) (dAugS to ti te r) :=
  weakS (ps_augS ho hi xd_get he hp xd_set ha) fun DV σV H ⟨D, σ, h, hE, hH, ht, hc⟩ => by
    refine ⟨σ, h, _, hE, hH, ht, fun a h1 x H1 s1 hH1 r1 q1 => ?_⟩
    have m1 := Stp.mo hH s1
    refine ⟨σ, h1, _, hE.mono m1, hH1, q1, fun b h2 y H2 s2 hH2 r2 q2 => ?_⟩
    have m2 := Stp.mo hH1 s2
    refine ⟨a, b, h2, _, RepV.mono m2 _ r1, r2, hH2, q2, fun d h3 z H3 s3 hH3 r3 q3 => ?_⟩
    have m3 := Stp.mo hH2 s3
    refine ⟨σ, h3, _, hE.mono ((m1.trans m2).trans m3), hH3, q3, fun e h4 u H4 s4 hH4 r4 q4 => ?_⟩
    have m4 := Stp.mo hH3 s4
    refine ⟨d, e, h4, _, RepV.mono m4 _ r3, r4, hH4, q4, fun f h5 w H5 s5 hH5 r5 q5 => ?_⟩
    have m5 := Stp.mo hH4 s5
    refine ⟨a, b, f, h5, _, RepV.mono ((m2.trans m3).trans (m4.trans m5)) _ r1, RepV.mono (m3.trans (m4.trans m5)) _ r2, r5, hH5, q5, fun h6 H6 s6 hH6 q6 => ?_⟩
    exact hc.nx σ h6 σV H6 (s1.trans (s2.trans (s3.trans (s4.trans (s5.trans s6))))) (hE.mono (((m1.trans m2).trans (m3.trans m4)).trans (m5.trans (Stp.mo hH5 s6)))) hH6 q6
end
end DL
namespace DL
open PySem PySem.Spec PyProof.Rows L2
/-! ### what is walked -/
structure SrcOk (K : PySem.W.Frag) (J : It) (xs : List D) (stab : MH → Prop) (h1 : MH) (H1 : Hp) : Prop where
  go : ∀ h H i, Stp h1 H1 h H → RepH K h H → stab h → i < xs.length → J.go i H
  yl : ∀ h H i v H', Stp h1 H1 h H → RepH K h H → stab h → i < xs.length → J.yld i H v H' → ∃ d, xs[i]? = some d ∧ RepV K H' d v ∧ Stp h H h H' ∧ RepH K h H'
  st : ∀ h H, Stp h1 H1 h H → RepH K h H → stab h → J.stop xs.length H
abbrev I1 := Sl → MH → (List D → (MH → Prop) → MH → Prop) → Prop
def lowI (K : PySem.W.Frag) (t : I1) : TI := fun σV H R => ∃ σ h Q, RepE K H σ σV ∧ RepH K h H ∧ t σ h Q ∧ ∀ xs stab h1 J H1, Stp h H h1 H1 → RepH K h1 H1 → SrcOk K J xs stab h1 H1 → Q xs stab h1 → R J H1
abbrev DI (X : Cx) (tg it : Expr) (t : I1) : Prop := PI X tg it (lowI X.K t)
theorem weakI {X : Cx} {tg e : Expr} {t t' : TI} (p : PI X tg e t) (w : ∀ σ H Q, t' σ H Q → t σ H Q) : PI X tg e t' := ⟨fun pins s σ H Q I h => p.run pins s σ H Q I (w σ H Q h)⟩
/-- the signs of a text -/
def signs (z : Str) : List D := z.cps.toList.map fun c => .str ⟨#[c]⟩
def stabO (a : Addr) (xs : List D) : MH → Prop := fun h => h a = some (.lst xs)
def srcO (a : Addr) (h : MH) (Q : List D → (MH → Prop) → MH → Prop) : Option MO → Prop
  | some (.lst xs) => Q xs (stabO a xs) h
  | none => False
/-- what a value is, walked -/
def srcD (d : D) (h : MH) (Q : List D → (MH → Prop) → MH → Prop) : Prop := match d with
  | .tup xs => Q xs (fun _ => True) h
  | .rol xs => Q xs (fun _ => True) h
  | .str z => Q (signs z) (fun _ => True) h
  | .ref a => srcO a h Q (h a)
  | _ => False
def iSeq (t : E1) : I1 := fun σ h Q => t σ h fun d h1 => srcD d h1 Q
section
variable {K : PySem.W.Frag}
theorem src_tup {H1 : Hp} {h1 : MH} {a : Addr} {xs : List D} {vs : List V} (r1 : RepH K h1 H1) (s : SqT K H1 a vs) (r : RepVs K H1 xs vs) : SrcOk K (Itt K a) xs (fun _ => True) h1 H1 := by
  have up : ∀ h H, Stp h1 H1 h H → SqT K H a vs ∧ RepVs K H xs vs := fun h H q => ⟨(Stp.mo r1 q).t _ _ s, RepVs.mono (Stp.mo r1 q) _ r⟩
  refine ⟨fun h H i q _ _ hi => ?_, fun h H i v H' q rh _ hi y => ?_, fun h H q _ _ => ⟨vs, (up h H q).1, by rw [← r.length]; exact Nat.le_refl _⟩⟩
  · obtain ⟨w, ew, _⟩ := P2.get r.pair (List.getElem?_eq_getElem hi)
    exact ⟨vs, w, (up h H q).1, ew⟩
  · obtain ⟨rfl, y⟩ := y
    obtain ⟨d, ed, rd⟩ := P2.get' (up _ _ q).2.pair (y vs (up _ _ q).1)
    exact ⟨d, ed, rd, Stp.refl, rh⟩
theorem src_rol {H1 : Hp} {h1 : MH} {a : Addr} {xs : List D} {vs : List V} (r1 : RepH K h1 H1) (s : ROL K H1 a vs) (r : RepVs K H1 xs vs) : SrcOk K (Itl K a) xs (fun _ => True) h1 H1 := by
  have up : ∀ h H, Stp h1 H1 h H → SqL K H a vs ∧ RepVs K H xs vs := fun h H q => ⟨((Stp.mo r1 q).l _ _ s).sq, RepVs.mono (Stp.mo r1 q) _ r⟩
  refine ⟨fun h H i q _ _ hi => ?_, fun h H i v H' q rh _ hi y => ?_, fun h H q _ _ => ⟨vs, (up h H q).1, by rw [← r.length]; exact Nat.le_refl _⟩⟩
  · obtain ⟨w, ew, _⟩ := P2.get r.pair (List.getElem?_eq_getElem hi)
    exact ⟨vs, w, (up h H q).1, ew⟩
  · obtain ⟨rfl, y⟩ := y
    obtain ⟨d, ed, rd⟩ := P2.get' (up _ _ q).2.pair (y vs (up _ _ q).1)
    exact ⟨d, ed, rd, Stp.refl, rh⟩
theorem src_lst {H1 : Hp} {h1 : MH} {a : Addr} {xs : List D} : SrcOk K (Itl K a) xs (stabO a xs) h1 H1 := by
  refine ⟨fun h H i _ rh st hi => ?_, fun h H i v H' _ rh st hi y => ?_, fun h H _ rh st => ?_⟩
  · obtain ⟨vs, e, r⟩ := rh a _ st
    obtain ⟨w, ew, _⟩ := P2.get r.pair (List.getElem?_eq_getElem hi)
    exact ⟨vs, w, SqL.of e, ew⟩
  · obtain ⟨vs, e, r⟩ := rh a _ st
    obtain ⟨rfl, y⟩ := y
    obtain ⟨d, ed, rd⟩ := P2.get' r.pair (y vs (SqL.of e))
    exact ⟨d, ed, rd, Stp.refl, rh⟩
  · obtain ⟨vs, e, r⟩ := rh a _ st
    exact ⟨vs, SqL.of e, by rw [← r.length]; exact Nat.le_refl _⟩
theorem src_str {H1 : Hp} {h1 : MH} {z : Str} (ok : okS z) : SrcOk K (Its z) (signs z) (fun _ => True) h1 H1 := by
  have len : (signs z).length = z.cps.size := by unfold signs; rw [List.length_map, Array.length_toList]
  refine ⟨fun h H i _ _ _ hi => ?_, fun h H i v H' _ rh _ hi y => ?_, fun h H _ _ _ => ?_⟩
  · show i < z.cps.size
    rw [← len]; exact hi
  · obtain ⟨rfl, c, ec, rfl⟩ := y
    refine ⟨.str ⟨#[c]⟩, ?_, ⟨rfl, ?_⟩, Stp.refl, rh⟩
    · unfold signs
      rw [List.getElem?_map, Array.getElem?_toList, ec]; rfl
    · refine ⟨by show 1 ≤ sizeLine; decide, ?_⟩
      have o := ok.2
      unfold PyData.strOk at o ⊢
      rw [Array.all_eq_true] at o
      obtain ⟨hlt, e⟩ := Array.getElem?_eq_some_iff.mp ec
      have := o i hlt
      rw [e] at this
      rw [← Array.all_toList, List.all_cons, List.all_nil, Bool.and_true]; exact this
  · show z.cps.size ≤ (signs z).length
    rw [len]; exact Nat.le_refl _
def rgD (lo : Int) (n : Nat) : List D := (List.range n).map fun i => .int (lo + (i : Nat))
theorem src_rng {H1 : Hp} {h1 : MH} {lo : Int} {n : Nat} : SrcOk K (Itr lo n) (rgD lo n) (fun _ => True) h1 H1 := by
  have len : (rgD lo n).length = n := by unfold rgD; rw [List.length_map, List.length_range]
  refine ⟨fun h H i _ _ _ hi => ?_, fun h H i v H' _ rh _ hi y => ?_, fun h H _ _ _ => ?_⟩
  · show i < n
    rw [← len]; exact hi
  · obtain ⟨rfl, rfl⟩ := y
    rw [len] at hi
    refine ⟨.int (lo + (i : Nat)), ?_, rfl, Stp.refl, rh⟩
    unfold rgD
    rw [List.getElem?_map, List.getElem?_range hi]; rfl
  · show n ≤ (rgD lo n).length
    rw [len]; exact Nat.le_refl _
end
section
variable {X : Cx}
theorem di_seq {tg e : Expr} {t : E1} (he : DE X e t) : DI X tg e (iSeq t) := by
  refine ⟨fun pins s σV H R I ⟨σ, h, Q, hE, hH, ht, hc⟩ => ?_⟩
  refine thn (he.run pins s σV H (fun v H' => ∃ d h', Stp h H h' H' ∧ RepH X.K h' H' ∧ RepV X.K H' d v ∧ srcD d h' Q) I ⟨σ, h, _, hE, hH, ht, fun d h' v H' s' r' rv q => ⟨d, h', s', r', rv, q⟩⟩) fun u s1 ⟨v, H1, I1, r1, d, h1, st1, rh1, rv, q⟩ => ?_
  cases d with
  | tup xs =>
    obtain ⟨a, vs, rfl, sq, rr⟩ := rv
    cases r1
    obtain ⟨its, _, tp, _⟩ := I1.tuple sq
    refine wpAny_pyIter_tuple (show s1.heap.IsTuple a its.toArray from tp) (pi_one (tk := s1.toks) I1 _ (turn_tuple a _) ?_ (hc _ _ _ _ _ st1 rh1 (src_tup rh1 sq rr) q))
    exact ⟨_, Heap.get?_push_size _ rfl, rfl, rfl⟩
  | rol xs =>
    obtain ⟨a, vs, rfl, sq, rr⟩ := rv
    cases r1
    obtain ⟨its, _, tp, _⟩ := I1.list sq.sq
    refine wpAny_pyIter_list tp.isList (pi_one (tk := s1.toks) I1 _ (turn_list a _) ?_ (hc _ _ _ _ _ st1 rh1 (src_rol rh1 sq rr) q))
    exact ⟨_, Heap.get?_push_size _ rfl, rfl, rfl⟩
  | ref a =>
    cases (show v = _ from rv)
    cases r1
    have q : srcO a h1 Q (h1 a) := q
    cases e : h1 a with
    | none => rw [e] at q; exact q.elim
    | some o =>
      cases o with
      | lst xs =>
        rw [e] at q
        obtain ⟨vs, eH, rr⟩ := rh1 a _ e
        obtain ⟨its, _, tp, _⟩ := I1.list (SqL.of eH)
        refine wpAny_pyIter_list tp.isList (pi_one (tk := s1.toks) I1 _ (turn_list a _) ?_ (hc _ _ _ _ _ st1 rh1 src_lst q))
        exact ⟨_, Heap.get?_push_size _ rfl, rfl, rfl⟩
  | str z =>
    obtain ⟨rfl, ok⟩ := rv
    obtain ⟨t, rfl⟩ := r1
    have fin : R (Its z) H1 := hc _ _ _ _ _ st1 rh1 (src_str ok) q
    cases ha : z.cps.all (· < 128)
    · refine wpAny_pyIter_wide ha (pi_one (tk := s1.toks) I1 _ (turn_str _ z t "str_iterator" (.inr rfl)) ?_ fin)
      exact ⟨_, Heap.get?_push_size _ rfl, rfl, rfl⟩
    · refine wpAny_pyIter_ascii ha (pi_one (tk := s1.toks) I1 _ (turn_str _ z t "str_ascii_iterator" (.inl rfl)) ?_ fin)
      exact ⟨_, Heap.get?_push_size _ rfl, rfl, rfl⟩
  | _ => exact q.elim
def rg1 (ds : List D) (h : MH) (Q : List D → (MH → Prop) → MH → Prop) : Prop := match ds with
  | [.int j] => (-(2 ^ 62) ≤ j ∧ j < 2 ^ 62) ∧ Q (rgD 0 j.toNat) (fun _ => True) h
  | _ => False
def iRg1 (ta : A1) : I1 := fun σ h Q => ta σ h fun ds h1 => rg1 ds h1 Q
theorem rg1_inv {ds : List D} {h : MH} {Q : List D → (MH → Prop) → MH → Prop} (q : rg1 ds h Q) : ∃ j, ds = [.int j] ∧ (-(2 ^ 62) ≤ j ∧ j < 2 ^ 62) ∧ Q (rgD 0 j.toNat) (fun _ => True) h := by
  unfold rg1 at q
  split at q
  · exact ⟨_, rfl, q.1, q.2⟩
  · exact q.elim
theorem di_range1 {tg a : Expr} {ta : A1} {p pos : Pos} (hg : Gl X "range") (hm : X.mg "range" = none) (ha : DA X [a] ta) (hs : starEach [a] X.env = [(false, eval a X.env)] := by rfl) : DI X tg (.Call (.Name "range" p) [a] [] pos) (iRg1 ta) :=
  weakI (pi_range1 hg hm ha hs) fun σV H R ⟨σ, h, Q, hE, hH, ht, hc⟩ => ⟨σ, h, _, hE, hH, ht, fun ds h' vs H' s' r' rv q => by
    obtain ⟨j, rfl, b, q⟩ := rg1_inv q
    obtain ⟨v, r, rfl, r1, r2⟩ := rv
    cases (show v = _ from r1)
    cases (show r = [] from r2)
    exact ⟨j, rfl, b.1, b.2, hc _ _ _ _ _ s' r' src_rng q⟩⟩
def rg2 (ds : List D) (h : MH) (Q : List D → (MH → Prop) → MH → Prop) : Prop := match ds with
  | [.int i, .int j] => (-(2 ^ 62) ≤ i ∧ i < 2 ^ 62 ∧ -(2 ^ 62) ≤ j ∧ j < 2 ^ 62) ∧ Q (rgD i (j - i).toNat) (fun _ => True) h
  | _ => False
def iRg2 (ta : A1) : I1 := fun σ h Q => ta σ h fun ds h1 => rg2 ds h1 Q
theorem rg2_inv {ds : List D} {h : MH} {Q : List D → (MH → Prop) → MH → Prop} (q : rg2 ds h Q) : ∃ i j, ds = [.int i, .int j] ∧ (-(2 ^ 62) ≤ i ∧ i < 2 ^ 62 ∧ -(2 ^ 62) ≤ j ∧ j < 2 ^ 62) ∧ Q (rgD i (j - i).toNat) (fun _ => True) h := by
  unfold rg2 at q
  split at q
  · exact ⟨_, _, rfl, q.1, q.2⟩
  · exact q.elim
theorem di_range2 {tg a b : Expr} {ta : A1} {p pos : Pos} (hg : Gl X "range") (hm : X.mg "range" = none) (ha : DA X [a, b] ta) (hs : starEach [a, b] X.env = [(false, eval a X.env), (false, eval b X.env)] := by rfl) (hs2 : starEach [b] X.env = [(false, eval b X.env)] := by rfl) : DI X tg (.Call (.Name "range" p) [a, b] [] pos) (iRg2 ta) :=
  weakI (pi_range2 hg hm ha hs hs2) fun σV H R ⟨σ, h, Q, hE, hH, ht, hc⟩ => ⟨σ, h, _, hE, hH, ht, fun ds h' vs H' s' r' rv q => by
    obtain ⟨i, j, rfl, b, q⟩ := rg2_inv q
    obtain ⟨v, r, rfl, r1, v2, r2, rfl, r3, r4⟩ := rv
    cases (show v = _ from r1)
    cases (show v2 = _ from r3)
    cases (show r2 = [] from r4)
    exact ⟨i, j, rfl, b, hc _ _ _ _ _ s' r' src_rng q⟩⟩
/-! ### loops -/
/-- at less than what stands -/
def Lw (I : Sl → MH → Prop) : Sl → MH → Prop := fun σ h => ∃ σ0 h0, leS σ0 σ ∧ le h0 h ∧ I σ0 h0
theorem Lw.of {I : Sl → MH → Prop} {σ : Sl} {h : MH} (q : I σ h) : Lw I σ h := ⟨σ, h, leS.refl, le.refl, q⟩
def dWhile (c : T1) (tb : S1) : S1 := fun D σ h => ∃ I : Nat → Sl → MH → Prop, (∃ m, Lw (I m) σ h) ∧ ∀ m σ h, I m σ h → c σ h fun b h1 =>
  if b = true then tb { D with nx := fun σ' h' => ∃ m', m' < m ∧ Lw (I m') σ' h', ct := fun σ' h' => ∃ m', m' < m ∧ Lw (I m') σ' h', bk := D.nx } σ h1 else D.nx σ h1
theorem ds_while {c : Expr} {body : List Stmt} {tc : T1} {tb : S1} {pos : Pos} (hp : PassesOwn (model X.prog X.w) X.A X.env X.xe) (hc : DT X c tc) (hb : DSs X body tb) : DS X (.While c body [] pos) (dWhile tc tb) :=
  weakS (ps_while hp hc hb) fun DV σV H ⟨D, σ, h, hE, hH, ⟨I, ⟨m0, σ0, h0, w1, w2, i0⟩, turn⟩, hcl⟩ => by
    refine ⟨fun m σV' H' => ∃ σ' h', Stp h H h' H' ∧ RepE X.K H' σ' σV' ∧ RepH X.K h' H' ∧ I m σ' h', ⟨m0, σ0, h0, Stp.low Stp.refl w2, hE.low w1, hH.low w2, i0⟩, ?_⟩
    rintro m σV1 H1 ⟨σ1, h1, s1, e1, r1, i1⟩
    refine ⟨σ1, h1, _, e1, r1, turn m σ1 h1 i1, fun b h2 H2 s2 r2 q => ?_⟩
    have e2 := e1.mono (Stp.mo r1 s2)
    cases b with
    | false =>
      rw [if_neg Bool.false_ne_true] at q
      exact iteF (hcl.nx _ _ _ _ (s1.trans s2) e2 r2 q)
    | true =>
      rw [if_pos rfl] at q
      refine iteT ?_
      refine ⟨fun σV' H' => ∃ m', m' < m ∧ ∃ σ' h', Stp h H h' H' ∧ RepE X.K H' σ' σV' ∧ RepH X.K h' H' ∧ I m' σ' h', fun σ' H' z => z, ?_⟩
      have back : ClN X.K h2 H2 (fun σ' h' => ∃ m', m' < m ∧ Lw (I m') σ' h') fun σV' H' => ∃ m', m' < m ∧ ∃ σ' h', Stp h H h' H' ∧ RepE X.K H' σ' σV' ∧ RepH X.K h' H' ∧ I m' σ' h' := fun σ' h' σV' H' s' e' r' ⟨m', hm, σ0, h0, w1, w2, i0⟩ =>
        ⟨m', hm, σ0, h0, ((s1.trans s2).trans s').low w2, e'.low w1, r'.low w2, i0⟩
      exact ⟨_, σ1, h2, e2, r2, q, ⟨back, (hcl.rt.step (s1.trans s2)), hcl.nx.step (s1.trans s2), back⟩⟩
def dFor (it : I1) (g : G1) (tb : S1) : S1 := fun D σ h => it σ h fun xs stab h1 => ∃ I : Nat → Sl → MH → Prop, Lw (I 0) σ h1 ∧ (∀ i σ h, I i σ h → stab h) ∧
  (∀ i x σ h, xs[i]? = some x → I i σ h → g x σ h fun σ2 h2 => tb { D with nx := Lw (I (i + 1)), ct := Lw (I (i + 1)), bk := D.nx } σ2 h2) ∧ ∀ σ h, I xs.length σ h → D.nx σ h
theorem ds_for {tg iter : Expr} {body : List Stmt} {wi : I1} {g : G1} {tb : S1} {pos : Pos} (hp : PassesOwn (model X.prog X.w) X.A X.env X.xe) (hc : X.calm = true) (hi : DI X tg iter wi) (hg : DG X P0 tg g) (hb : DSs X body tb)
    (hs : ∀ x, foldedSetIterable iter X.env x = pure x := by intro _; rfl) : DS X (.For tg iter body [] pos) (dFor wi g tb) :=
  weakS (ps_for hp hc hi hg hb hs) fun DV σV H ⟨D, σ, h, hE, hH, ht, hcl⟩ => by
    refine ⟨σ, h, _, hE, hH, ht, fun xs stab h1 J H1 s1 r1 so ⟨I, ⟨σ0, h0, w1, w2, i0⟩, st, turn, fin⟩ => ?_⟩
    have e1 := hE.mono (Stp.mo hH s1)
    refine ⟨fun i m σV' H' => m = xs.length - i ∧ i ≤ xs.length ∧ ∃ σ' h', Stp h1 H1 h' H' ∧ RepE X.K H' σ' σV' ∧ RepH X.K h' H' ∧ I i σ' h', ⟨xs.length, rfl, Nat.zero_le _, σ0, h0, Stp.low Stp.refl w2, e1.low w1, r1.low w2, i0⟩, ?_⟩
    rintro i m σV2 H2 ⟨rfl, hi, σ2, h2, s2, e2, r2, i2⟩
    by_cases lt : i < xs.length
    · refine .inr ⟨so.go h2 H2 i s2 r2 (st _ _ _ i2) lt, fun σV' H' => ∃ σ' h', Stp h1 H1 h' H' ∧ RepE X.K H' σ' σV' ∧ RepH X.K h' H' ∧ I (i + 1) σ' h', fun σ' H' z => ⟨xs.length - (i + 1), by omega, rfl, lt, z⟩, fun v H3 y => ?_⟩
      obtain ⟨d, ed, rd, s3, r3⟩ := so.yl h2 H2 i v H3 s2 r2 (st _ _ _ i2) lt y
      refine ⟨d, σ2, h2, _, rd, e2.mono (Stp.mo r2 s3), r3, turn i d σ2 h2 ed i2, fun σ4 h4 σV4 H4 _ s4 e4 r4 q4 => ?_⟩
      have back : ClN X.K h4 H4 (Lw (I (i + 1))) fun σV' H' => ∃ σ' h', Stp h1 H1 h' H' ∧ RepE X.K H' σ' σV' ∧ RepH X.K h' H' ∧ I (i + 1) σ' h' := fun σ' h' σV' H' s' e' r' ⟨σ0, h0, w1, w2, i0⟩ =>
        ⟨σ0, h0, ((s2.trans (s3.trans s4)).trans s').low w2, e'.low w1, r'.low w2, i0⟩
      have all := s1.trans (s2.trans (s3.trans s4))
      exact ⟨_, σ4, h4, e4, r4, q4, ⟨back, hcl.rt.step all, hcl.nx.step all, back⟩⟩
    · have e : i = xs.length := by omega
      subst e
      exact .inl ⟨so.st h2 H2 s2 r2 (st _ _ _ i2), hcl.nx _ _ _ _ (s1.trans s2) e2 r2 (fin σ2 h2 i2)⟩
/-! ### comprehensions -/
def wipeD (σ : Sl) : List Nat → Sl
  | [] => σ
  | v :: vs => put (wipeD σ vs) v none
theorem wipeD_len (σ : Sl) : ∀ vs, (wipeD σ vs).length = σ.length
  | [] => rfl
  | v :: vs => by show (put _ v none).length = _; rw [put_len, wipeD_len σ vs]
theorem wipeD_nth {σ : Sl} {j : Nat} {e : D} : ∀ {vs : List Nat}, nth (wipeD σ vs) j = some e → nth σ j = some e ∧ j ∉ vs
  | [], h => ⟨h, by simp⟩
  | v :: vs, h => by
    rcases nth_put _ v j none h with ⟨_, q⟩ | ⟨n, q⟩
    · cases q
    · obtain ⟨a, b⟩ := wipeD_nth q
      exact ⟨a, by simp [n, b]⟩
theorem wipe_at {σ : L2.St} {j : Nat} : ∀ {vs : List Nat}, j ∉ vs → (wipe σ vs)[j]? = σ[j]?
  | [], _ => rfl
  | v :: vs, h => by
    rw [List.mem_cons, not_or] at h
    show ((wipe σ vs).set v none)[j]? = _
    rw [List.getElem?_set_ne (Ne.symm h.1), wipe_at h.2]
theorem RepE.wipe {K : PySem.W.Frag} {H : Hp} {σ : Sl} {σV : L2.St} (r : RepE K H σ σV) (vs : List Nat) : RepE K H (wipeD σ vs) (L2.wipe σV vs) := by
  refine ⟨by rw [wipeD_len, wipe_length]; exact r.len, fun i d e => ?_⟩
  obtain ⟨a, b⟩ := wipeD_nth e
  obtain ⟨v, x, y⟩ := r.val i d a
  exact ⟨v, by rw [wipe_at b]; exact x, y⟩
theorem wipe_wipe {σ : L2.St} : ∀ {vs : List Nat} (ws : List Nat), (∀ v ∈ vs, v ∈ ws) → L2.wipe (L2.wipe σ vs) ws = L2.wipe σ ws
  | [], _, _ => rfl
  | v :: vs, ws, h => by
    show L2.wipe ((L2.wipe σ vs).set v none) ws = _
    rw [wipe_put ws _ (h v (by simp)), wipe_wipe ws fun u hu => h u (by simp [hu])]
def dLc (it : I1) (g : G1) (tt : T1) (te : E1) (vs : List Nat) : E1 := fun σ h Q => it σ h fun xs stab h1 => xs.length ≤ sizeLine ∧ ∃ I : Nat → List D → MH → Prop, (∃ h0, le h0 h1 ∧ I 0 [] h0) ∧ (∀ i a h, I i a h → stab h) ∧
  (∀ i x a h, xs[i]? = some x → I i a h → g x (wipeD σ vs) h fun σ2 h2 => tt σ2 h2 fun b h3 => if b = true then te σ2 h3 fun y h4 => ∃ h5, le h5 h4 ∧ I (i + 1) (a ++ [y]) h5 else ∃ h5, le h5 h3 ∧ I (i + 1) a h5) ∧
  ∀ a h, I xs.length a h → ∀ p, h p = none → Q (.ref p) (up h p (.lst a))
abbrev DTs (X : Cx) (ifs : List Expr) (t : T1) : Prop := PTs X ifs (lowT X.K t)
def dYes : T1 := fun _ h Q => Q true h
theorem dts_nil : DTs X [] dYes := ⟨fun pins s σV H QV I ⟨σ, h, Q, hE, hH, ht, hc⟩ => pts_nil.run pins s σV H QV I (hc true h H Stp.refl hH ht)⟩
theorem dts_one {c : Expr} {t : T1} (h : DT X c t) : DTs X [c] t := pts_one h
theorem low_lc {K : PySem.W.Frag} {it : I1} {g : G1} {tt : T1} {te : E1} {vs : List Nat} {σV : L2.St} {H : Hp} {QV : VK} (q : lowE K (dLc it g tt te vs) σV H QV) :
    tLc (lowI K it) (lowG K (Pw vs) g) (lowT K tt) (lowE K te) vs σV H QV := by
  obtain ⟨σ, h, Q, hE, hH, ht, hc⟩ := q
  refine ⟨σ, h, _, hE, hH, ht, fun xs stab h1 J H1 s1 r1 so ⟨hz, I, ⟨h0, w0, i0⟩, st, turn, fin⟩ A nA => ?_⟩
  have e1 := (hE.mono (Stp.mo hH s1)).wipe vs
  have h0A : h0 A = none := by
    cases z : h0 A with
    | none => rfl
    | some u => have := w0 A u z; rw [r1.nofresh nA] at this; cases this
  refine ⟨fun i m H' => m = xs.length - i ∧ i ≤ xs.length ∧ ∃ a av h', H' A = some (.lst av) ∧ RepVs K H' a av ∧ a.length ≤ i ∧ Stp h1 H1 h' H' ∧ RepH K h' H' ∧ h' A = none ∧ RepE K H' (wipeD σ vs) (L2.wipe σV vs) ∧ I i a h', ⟨xs.length, rfl, Nat.zero_le _, [], [], h0, upd_same, rfl, Nat.zero_le _, ?_, ?_, h0A, ?_, i0⟩, ?_⟩
  · exact (Stp.hide nA).low w0
  · exact (r1.hide nA).low w0
  · exact e1.mono (Stp.mo r1 (Stp.hide nA))
  rintro i m H2 ⟨rfl, hi, a, av, h2, eA, ra, la, s2, r2, hA, e2, i2⟩
  by_cases lt : i < xs.length
  · refine .inr ⟨so.go h2 H2 i s2 r2 (st _ _ _ i2) lt, fun H' => ∃ a av h', H' A = some (.lst av) ∧ RepVs K H' a av ∧ a.length ≤ i + 1 ∧ Stp h1 H1 h' H' ∧ RepH K h' H' ∧ h' A = none ∧ RepE K H' (wipeD σ vs) (L2.wipe σV vs) ∧ I (i + 1) a h', fun H' z => ⟨xs.length - (i + 1), by omega, rfl, lt, z⟩, fun v H3 y => ?_⟩
    obtain ⟨d, ed, rd, s3, r3⟩ := so.yl h2 H2 i v H3 s2 r2 (st _ _ _ i2) lt y
    refine ⟨d, wipeD σ vs, h2, _, rd, e2.mono (Stp.mo r2 s3), r3, turn i d a h2 ed i2, fun σ4 h4 σV4 H4 p4 s4 e4 r4 q4 => ⟨?_, ?_⟩⟩
    · have p4 : L2.wipe σV4 vs = L2.wipe (L2.wipe σV vs) vs := p4
      rw [p4, wipe_wipe vs fun _ z => z]
    refine ⟨σ4, h4, _, e4, r4, q4, fun b h5 H5 s5 r5 q5 => ?_⟩
    have s35 := s3.trans (s4.trans s5)
    have m35 := Stp.mo r2 s35
    obtain ⟨hA5, eA5⟩ := s35 A _ hA eA
    cases b with
    | false =>
      rw [if_neg Bool.false_ne_true] at q5
      refine iteF ?_
      obtain ⟨h6, w6, i6⟩ := q5
      refine ⟨a, av, h6, eA5, RepVs.mono m35 _ ra, by omega, (s2.trans s35).low w6, r5.low w6, ?_, e2.mono m35, i6⟩
      cases z : h6 A with
      | none => rfl
      | some u => have := w6 A u z; rw [hA5] at this; cases this
    | true =>
      rw [if_pos rfl] at q5
      refine iteT ?_
      refine ⟨σ4, h5, _, e4.mono (Stp.mo r4 s5), r5, q5, fun y h6 yv H6 s6 r6 ry ⟨h7, w7, i7⟩ => ?_⟩
      have s36 := s35.trans s6
      have m36 := Stp.mo r2 s36
      obtain ⟨hA6, eA6⟩ := s36 A _ hA eA
      have hA7 : h7 A = none := by
        cases z : h7 A with
        | none => rfl
        | some u => have := w7 A u z; rw [hA6] at this; cases this
      -- the new list is hidden: its growth is seen by nobody
      have ne : ∀ c u, H6 c = some u → h6 c = none → c ≠ A → upd H6 A (.lst (av ++ [yv])) c = some u := fun c u e _ n => by rw [upd_ne n]; exact e
      have mo7 : Mo K H6 (upd H6 A (.lst (av ++ [yv]))) := by
        refine ⟨fun c ys q => ?_, fun c ys q => ?_⟩
        · rcases q with (q | ⟨o, q⟩) | q
          · exact .inl (.inl (by rw [upd_ne (ne_of q eA6 (by intro z; cases z))]; exact q))
          · exact .inl (.inr ⟨o, by rw [upd_ne (ne_of q eA6 (by intro z; cases z))]; exact q⟩)
          · exact .inr q
        · rcases q with ⟨o, q⟩ | q
          · exact .inl ⟨o, by rw [upd_ne (ne_of q eA6 (by intro z; cases z))]; exact q⟩
          · exact .inr q
      have r7 : RepH K h7 (upd H6 A (.lst (av ++ [yv]))) := fun c u e => by
        have nc : c ≠ A := fun z => by rw [z, hA7] at e; cases e
        exact (r6 c u (w7 c u e)).mono mo7 fun x f => by rw [upd_ne nc]; exact f
      refine ⟨av, eA6, ?_, a ++ [y], av ++ [yv], h7, upd_same, RepVs.mono mo7 _ (.of (P2.append (RepVs.mono m36 _ ra).pair (.cons ry .nil))), by rw [List.length_append, List.length_singleton]; omega, ?_, r7, hA7, (e2.mono m36).mono mo7, i7⟩
      · rw [← (RepVs.mono m36 _ ra).length]
        omega
      · intro c u e f
        obtain ⟨x1, x2⟩ := ((s2.trans s36).low w7) c u e f
        have nc : c ≠ A := fun z => by rw [z, nA] at f; cases f
        exact ⟨x1, by rw [upd_ne nc]; exact x2⟩
  · have e : i = xs.length := by omega
    subst e
    refine .inl ⟨so.st h2 H2 s2 r2 (st _ _ _ i2), ?_⟩
    have fq := fin a h2 i2 A hA
    refine hc (.ref A) (up h2 A (.lst a)) (.ref A) H2 ?_ ?_ rfl fq
    · intro c u x y
      obtain ⟨x1, y1⟩ := s1 c u x y
      have nc : c ≠ A := fun z => by rw [z, nA] at y1; cases y1
      obtain ⟨x2, y2⟩ := s2 c u x1 y1
      exact ⟨by rw [up_ne nc]; exact x2, y2⟩
    · intro c u x
      by_cases z : c = A
      · subst z
        rw [up_same] at x; cases x
        exact ⟨av, eA, ra⟩
      · rw [up_ne z] at x
        exact r2 c u x
theorem de_lc {elt tg iter : Expr} {ifs : List Expr} {scope : Scope} {own : List (Str × Nat)} {pos : Pos} {wi : I1} {g : G1} {tt : T1} {te : E1} (hc : X.calm = true) (hN : X.N.Nodup) (hi : DI X tg iter wi) (ok : BlkOk X.N X.env.scope scope own)
    (hg : ∀ (s : Shared) (H : Hp) (C : Addr) (cl : List (Str × Addr)) (fp : List Addr), DG (X.blk s H scope (compEnvC scope cl C X.env) fp) (Pw (own.map (·.2))) tg g) (ht : ∀ (s : Shared) (H : Hp) (C : Addr) (cl : List (Str × Addr)) (fp : List Addr), DTs (X.blk s H scope (compEnvC scope cl C X.env) fp) ifs tt)
    (he : ∀ (s : Shared) (H : Hp) (C : Addr) (cl : List (Str × Addr)) (fp : List Addr), DE (X.blk s H scope (compEnvC scope cl C X.env) fp) elt te) (hs : ∀ x, foldedSetIterable iter X.env x = pure x := by intro _; rfl) :
    DE X (.ListComp elt [⟨tg, iter, ifs, 0⟩] scope pos) (dLc wi g tt te (own.map (·.2))) := weakE (pe_lc hc hN hi ok hg ht he hs) fun _ _ _ q => low_lc q
theorem ds_setLc (i : Nat) {y : Str} {py : Pos} {elt tg iter : Expr} {ifs : List Expr} {scope : Scope} {own : List (Str × Nat)} {pos spos : Pos} {wi : I1} {g : G1} {tt : T1} {te : E1} (hc : X.calm = true) (hN : X.N.Nodup) (hy : X.N[i]? = some y) (hyl : X.env.scope.names.lookup y = some .local)
    (hsw : swapsWith (.ListComp elt [⟨tg, iter, ifs, 0⟩] scope pos) (some (.Name y py)) spos.line X.env = pure true) (hi : DI X tg iter wi) (ok : BlkOk X.N X.env.scope scope own)
    (hg : ∀ (s : Shared) (H : Hp) (C : Addr) (cl : List (Str × Addr)) (fp : List Addr), DG (X.blk s H scope (compEnvC scope cl C X.env) fp) (Pw (own.map (·.2))) tg g) (ht : ∀ (s : Shared) (H : Hp) (C : Addr) (cl : List (Str × Addr)) (fp : List Addr), DTs (X.blk s H scope (compEnvC scope cl C X.env) fp) ifs tt)
    (he : ∀ (s : Shared) (H : Hp) (C : Addr) (cl : List (Str × Addr)) (fp : List Addr), DE (X.blk s H scope (compEnvC scope cl C X.env) fp) elt te) (hs : ∀ x, foldedSetIterable iter X.env x = pure x := by intro _; rfl) :
    DS X (.Assign [.Name y py] (.ListComp elt [⟨tg, iter, ifs, 0⟩] scope pos) spos) (dAsg (dLc wi g tt te (own.map (·.2))) (gN i)) :=
  weakS (ps_setLc (i := i) hc hN hy hyl hsw hi ok hg ht he hs) fun DV σV H ⟨D, σ, h, hE, hH, ht, hcl⟩ => low_lc ⟨σ, h, _, hE, hH, ht, fun d h' v H' s' r' rv q => hcl.nx _ h' _ H' s' ((hE.mono (Stp.mo hH s')).put rv) r' q⟩
end
end DL
namespace DL
open PySem PySem.Spec PyProof.Rows L2
section
variable {X : Cx}
/-! ### arguments, displays -/
def dNil : A1 := fun _ h Q => Q [] h
def dCons (t : E1) (r : A1) : A1 := fun σ h Q => t σ h fun x h1 => r σ h1 fun xs h2 => Q (x :: xs) h2
theorem da_nil : DA X [] dNil := weakA pa_nil fun σV H QV ⟨σ, h, Q, hE, hH, ht, hc⟩ => hc [] h [] H Stp.refl hH rfl ht
theorem da_cons {e : Expr} {es : List Expr} {t : E1} {r : A1} (a : DE X e t) (b : DA X es r) (hs : starEach (e :: es) X.env = (false, eval e X.env) :: starEach es X.env := by rfl) : DA X (e :: es) (dCons t r) :=
  weakA (pa_cons a b hs) fun σV H QV ⟨σ, h, Q, hE, hH, ht, hc⟩ => by
    refine ⟨σ, h, _, hE, hH, ht, fun x h1 v H1 s1 hH1 r1 q1 => ?_⟩
    refine ⟨σ, h1, _, hE.mono (Stp.mo hH s1), hH1, q1, fun xs h2 vs H2 s2 hH2 r2 q2 => ?_⟩
    exact hc (x :: xs) h2 _ H2 (s1.trans s2) hH2 (RepVs.cons (RepV.mono (Stp.mo hH1 s2) _ r1) r2) q2
def dTup (t : A1) : E1 := fun σ h Q => t σ h fun ds h1 => ds.length ≤ sizeLine ∧ Q (.tup ds) h1
def dLst (t : A1) : E1 := fun σ h Q => t σ h fun ds h1 => ds.length ≤ sizeLine ∧ ∀ p, h1 p = none → Q (.ref p) (up h1 p (.lst ds))
theorem de_tup {es : List Expr} {t : A1} {k : Nat} {pos : Pos} (a : DA X es t) : DE X (.Tuple es k pos) (dTup t) := weakE (pe_tup a) fun σV H QV ⟨σ, h, Q, hE, hH, ht, hc⟩ =>
  ⟨σ, h, _, hE, hH, ht, fun ds h1 vs H1 s1 hH1 r1 q => ⟨by rw [← r1.length]; exact q.1, fun p n => (hc.step s1).tup hH1 n r1 q.2⟩⟩
theorem de_lst {es : List Expr} {t : A1} {pos : Pos} (a : DA X es t) : DE X (.List es pos) (dLst t) := weakE (pe_lst a) fun σV H QV ⟨σ, h, Q, hE, hH, ht, hc⟩ =>
  ⟨σ, h, _, hE, hH, ht, fun ds h1 vs H1 s1 hH1 r1 q => ⟨by rw [← r1.length]; exact q.1, fun p n => (hc.step s1).new hH1 n r1 (q.2 p (hH1.nofresh n))⟩⟩
/-! ### calls of built-ins -/
abbrev C1 := List D → MH → KD → Prop
def lowC (K : PySem.W.Frag) (r : C1) : List V → Hp → VK → Prop := fun vs H QV => ∃ ds h Q, RepVs K H ds vs ∧ RepH K h H ∧ r ds h Q ∧ Cl K h H Q QV
def dCall (r : C1) (t : A1) : E1 := fun σ h Q => t σ h fun ds h1 => r ds h1 Q
theorem low_call {K : PySem.W.Frag} {r : C1} {t : A1} {σV : L2.St} {H : Hp} {QV : VK} (q : lowE K (dCall r t) σV H QV) : tCB (lowC K r) (lowA K t) σV H QV := by
  obtain ⟨σ, h, Q, hE, hH, ht, hc⟩ := q
  exact ⟨σ, h, _, hE, hH, ht, fun ds h1 vs H1 s1 hH1 r1 q => ⟨ds, h1, Q, r1, hH1, q, hc.step s1⟩⟩
theorem callR_of {f : Value} {r' : List V → Hp → VK → Prop} (h : ∀ xs H Q, r' xs H Q → ∃ r, CallR X f r ∧ r xs H Q) : CallR X f r' := fun pins s σ H xs us Q I rx hr =>
  let ⟨r, ho, hq⟩ := h xs H Q hr
  ho pins s σ H xs us Q I rx hq
theorem de_callB {id : String} {r : C1} {x : Str} {e : Expr} {es : List Expr} {t : A1} {p pos : Pos} (hc : CallR X (.builtin id) (lowC X.K r)) (hg : Gl X x) (hm : X.mg x = none) (hv : bootBuiltins x = some (.builtin id)) (ha : DA X (e :: es) t) (hn : x ≠ "__name__" := by decide) (hdb : (x == ("__debug__" : Str)) = false := by decide)
    (he : starEach (e :: es) X.env = (false, eval e X.env) :: starEach es X.env := by rfl) (hpl : (backTo pos (starEach es X.env)).any (·.1) = false := by rfl) : DE X (.Call (.Name x p) (e :: es) [] pos) (dCall r t) :=
  weakE (pe_callB hc hg hm hv ha hn hdb he hpl) fun _ _ _ q => low_call q
theorem de_callTy {T : String} {r : C1} {x : Str} {e : Expr} {es : List Expr} {t : A1} {p pos : Pos} (hc : CallR X (.type T) (lowC X.K r)) (hg : Gl X x) (hm : X.mg x = none) (hv : bootBuiltins x = some (.type T)) (ha : DA X (e :: es) t) (hn : x ≠ "__name__" := by decide) (hdb : (x == ("__debug__" : Str)) = false := by decide)
    (he : starEach (e :: es) X.env = (false, eval e X.env) :: starEach es X.env := by rfl) (hpl : (backTo pos (starEach es X.env)).any (·.1) = false := by rfl) : DE X (.Call (.Name x p) (e :: es) [] pos) (dCall r t) :=
  weakE (pe_callTy hc hg hm hv ha hn hdb he hpl) fun _ _ _ q => low_call q
theorem de_ty {T : String} {x : Str} {pos : Pos} (hg : Gl X x) (hm : X.mg x = none) (hv : bootBuiltins x = some (.type T)) (hn : x ≠ "__name__" := by decide) (hd : (x == ("__debug__" : Str)) = false := by decide) : DE X (.Name x pos) (dC (.ty T)) :=
  de_c (pe_bltn (v := .ty T) hg hm hv rfl hn hd) fun _ => rfl
theorem rep1 {K : PySem.W.Frag} {H : Hp} {d : D} {vs : List V} (r : RepVs K H [d] vs) : ∃ v, vs = [v] ∧ RepV K H d v := by
  obtain ⟨v, u, rfl, a, b⟩ := r
  cases (show u = [] from b)
  exact ⟨v, rfl, a⟩
theorem rep2 {K : PySem.W.Frag} {H : Hp} {d e : D} {vs : List V} (r : RepVs K H [d, e] vs) : ∃ v u, vs = [v, u] ∧ RepV K H d v ∧ RepV K H e u := by
  obtain ⟨v, u, rfl, a, b⟩ := r
  obtain ⟨w, rfl, c⟩ := rep1 b
  exact ⟨v, w, rfl, a, c⟩
def on1 (r : D → MH → KD → Prop) : C1 := fun ds h Q => match ds with
  | [d] => r d h Q
  | _ => False
def on2 (r : R1) : C1 := fun ds h Q => match ds with
  | [d, e] => r d e h Q
  | _ => False
theorem on1_inv {r : D → MH → KD → Prop} {ds : List D} {h : MH} {Q : KD} (q : on1 r ds h Q) : ∃ d, ds = [d] ∧ r d h Q := by
  unfold on1 at q
  split at q
  · exact ⟨_, rfl, q⟩
  · exact q.elim
theorem on2_inv {r : R1} {ds : List D} {h : MH} {Q : KD} (q : on2 r ds h Q) : ∃ d e, ds = [d, e] ∧ r d e h Q := by
  unfold on2 at q
  split at q
  · exact ⟨_, _, rfl, q⟩
  · exact q.elim
theorem callR_1 {f : Value} {r : D → MH → KD → Prop} (h : ∀ (x : V) (d : D) (h : MH) (H : Hp) (Q : KD) (QV : VK), RepV X.K H d x → RepH X.K h H → r d h Q → Cl X.K h H Q QV → ∃ r, CallR X f r ∧ r [x] H QV) : CallR X f (lowC X.K (on1 r)) :=
  callR_of fun xs H QV ⟨ds, m, Q, rv, hH, hr, hc⟩ => by
    obtain ⟨d, rfl, q⟩ := on1_inv hr
    obtain ⟨x, rfl, rx⟩ := rep1 rv
    exact h x d m H Q QV rx hH q hc
theorem callR_2 {f : Value} {r : R1} (h : ∀ (x y : V) (d e : D) (h : MH) (H : Hp) (Q : KD) (QV : VK), RepV X.K H d x → RepV X.K H e y → RepH X.K h H → r d e h Q → Cl X.K h H Q QV → ∃ r, CallR X f r ∧ r [x, y] H QV) : CallR X f (lowC X.K (on2 r)) :=
  callR_of fun xs H QV ⟨ds, m, Q, rv, hH, hr, hc⟩ => by
    obtain ⟨d, e, rfl, q⟩ := on2_inv hr
    obtain ⟨x, y, rfl, rx, ry⟩ := rep2 rv
    exact h x y d e m H Q QV rx ry hH q hc
def seqK (k : List D → Prop) : Option (List D) → Prop
  | some ds => k ds
  | none => False
/-- len -/
def lenD (x : D) (h : MH) (Q : KD) : Prop := match x with
  | .str z => Q (.int z.length) h
  | x => seqK (fun ds => Q (.int ds.length) h) (seqOf h x)
theorem xd_len : CallR X (.builtin "len") (lowC X.K (on1 lenD)) := callR_1 fun x d h H Q QV rx hH hr hc => by
  have sq : seqK (fun ds => Q (.int ds.length) h) (seqOf h d) → ∃ r, CallR X (.builtin "len") r ∧ r [x] H QV := fun hr => by
    cases q : seqOf h d with
    | none => rw [q] at hr; exact hr.elim
    | some ds =>
      rw [q] at hr
      obtain ⟨a, vs, rfl, rv, hs⟩ := seq_rep hH rx q
      refine ⟨_, call_len_seq, a, vs, rfl, hs, ?_⟩
      rw [← rv.length]
      exact hc.int hH hr
  cases d with
  | str z =>
    obtain ⟨rfl, ok⟩ := rx
    exact ⟨_, call_len_str, z, rfl, ok.1, hc.int hH hr⟩
  | _ => exact sq hr
/-- tuple(xs) -/
def tupleD (x : D) (h : MH) (Q : KD) : Prop := seqK (fun ds => Q (.tup ds) h) (seqOf h x)
theorem xd_tuple : CallR X (.type "tuple") (lowC X.K (on1 tupleD)) := callR_1 fun x d h H Q QV rx hH hr hc => by
  unfold tupleD at hr
  cases q : seqOf h d with
  | none => rw [q] at hr; exact hr.elim
  | some ds =>
    rw [q] at hr
    obtain ⟨a, vs, rfl, rv, hs⟩ := seq_rep hH rx q
    refine ⟨_, call_tuple_of, a, vs, rfl, ?_⟩
    rcases hs with hs | hs
    · exact .inl ⟨hs, fun l n => hc.tup hH n rv hr⟩
    · exact .inr ⟨hs, hc.val hH (d := .tup ds) ⟨a, vs, rfl, hs, rv⟩ hr⟩
/-- list(xs) -/
def listD (x : D) (h : MH) (Q : KD) : Prop := seqK (fun ds => ∀ p, h p = none → Q (.ref p) (up h p (.lst ds))) (seqOf h x)
theorem xd_list : CallR X (.type "list") (lowC X.K (on1 listD)) := callR_1 fun x d h H Q QV rx hH hr hc => by
  unfold listD at hr
  cases q : seqOf h d with
  | none => rw [q] at hr; exact hr.elim
  | some ds =>
    rw [q] at hr
    obtain ⟨a, vs, rfl, rv, hs⟩ := seq_rep hH rx q
    exact ⟨_, call_list_of, a, vs, rfl, hs, fun l n => hc.new hH n rv (hr l (hH.nofresh n))⟩
/-- abs, int -/
def absD (x : D) (h : MH) (Q : KD) : Prop := match x with
  | .int i => Q (.int (if i < 0 then -i else i)) h
  | _ => False
theorem xd_abs : CallR X (.builtin "abs") (lowC X.K (on1 absD)) := callR_1 fun x d h H Q QV rx hH hr hc => by
  cases d <;> try exact hr.elim
  case int i =>
    cases (show x = _ from rx)
    exact ⟨_, call_abs, i, rfl, hc.int hH hr⟩
def intD (x : D) (h : MH) (Q : KD) : Prop := match x with
  | .int i => Q (.int i) h
  | .bool b => Q (.int (if b = true then 1 else 0)) h
  | _ => False
theorem xd_int : CallR X (.type "int") (lowC X.K (on1 intD)) := callR_1 fun x d h H Q QV rx hH hr hc => by
  cases d <;> try exact hr.elim
  case int i =>
    cases (show x = _ from rx)
    exact ⟨_, call_int1, .inl ⟨i, rfl, hc.int hH hr⟩⟩
  case bool b =>
    cases (show x = _ from rx)
    exact ⟨_, call_int1, .inr ⟨b, rfl, hc.int hH hr⟩⟩
/-- isinstance -/
def tyS (o : Option MO) : Option String := match o with
  | some (.lst _) => some "list"
  | none => none
def tyN (h : MH) : D → Option String
  | .none => some "NoneType"
  | .bool _ => some "bool"
  | .int _ => some "int"
  | .str _ => some "str"
  | .tup _ => some "tuple"
  | .rol _ => some "list"
  | .ref a => tyS (h a)
  | .ty _ => none
def kitK (k : Bool → Prop) : Option Bool → Prop
  | some b => k b
  | none => False
def isiK (n : String) (k : Bool → Prop) : Option String → Prop
  | some t => kitK k (kitB t n)
  | none => False
def isiD : R1 := fun x y h Q => match y with
  | .ty n => isiK n (fun b => Q (.bool b) h) (tyN h x)
  | _ => False
theorem ty_rep {h : MH} {H : Hp} (hH : RepH X.K h H) : ∀ {d : D} {v : V} {t : String}, RepV X.K H d v → tyN h d = some t → TyX X.K H v (.type t)
  | .none, _, _, r, e => by cases e; cases (show _ = _ from r); exact .base .non
  | .bool b, _, _, r, e => by cases e; cases (show _ = _ from r); exact .base (.bl b)
  | .int i, _, _, r, e => by cases e; cases (show _ = _ from r); exact .base (.int i)
  | .str z, _, _, r, e => by cases e; obtain ⟨rfl, _⟩ := r; exact .base (.str z)
  | .tup ds, _, _, r, e => by
    cases e
    obtain ⟨a, vs, rfl, s, _⟩ := r
    rcases s with (s | ⟨o, s⟩) | ⟨o, its, n, s, c, _⟩
    · exact .base (.tup s)
    · exact .fTuple s
    · exact .kTuple s c
  | .rol ds, _, _, r, e => by
    cases e
    obtain ⟨a, vs, rfl, s, _⟩ := r
    rcases s with ⟨o, s⟩ | ⟨o, its, n, s, c, _⟩
    · exact .base (.frz s)
    · exact .kList s c
  | .ref a, _, t, r, e => by
    cases (show _ = V.ref a from r)
    have e : tyS (h a) = some t := e
    cases q : h a with
    | none => rw [q] at e; cases e
    | some o =>
      cases o with
      | lst ds =>
        rw [q] at e; cases e
        obtain ⟨vs, eH, _⟩ := hH a _ q
        exact .base (.lst eH)
  | .ty _, _, _, _, e => by cases e
theorem xd_isi : CallR X (.builtin "isinstance") (lowC X.K (on2 isiD)) := callR_2 fun x y d e h H Q QV rx ry hH hr hc => by
  cases e <;> try exact hr.elim
  case ty n =>
    cases (show y = _ from ry)
    have hr : isiK n (fun b => Q (.bool b) h) (tyN h d) := hr
    cases q : tyN h d with
    | none => rw [q] at hr; exact hr.elim
    | some t =>
      rw [q] at hr
      have hr : kitK (fun b => Q (.bool b) h) (kitB t n) := hr
      cases q2 : kitB t n with
      | none => rw [q2] at hr; exact hr.elim
      | some b =>
        rw [q2] at hr
        exact ⟨_, call_isi, x, .ty n, .type t, .type n, b, rfl, .ty n, ty_rep hH rx q, kit_ty q2, hc.bl hH hr⟩
/-- all, any, sum -/
def blsOf : List D → Option (List Bool)
  | [] => some []
  | .bool b :: r => (blsOf r).map (b :: ·)
  | _ :: _ => none
def intsOf : List D → Option (List Int)
  | [] => some []
  | .int b :: r => (intsOf r).map (b :: ·)
  | _ :: _ => none
def strsOf : List D → Option (List Str)
  | [] => some []
  | .str b :: r => (strsOf r).map (b :: ·)
  | _ :: _ => none
theorem blsOf_rep {K : PySem.W.Frag} {H : Hp} : ∀ {ds : List D} {vs : List V} {bs : List Bool}, RepVs K H ds vs → blsOf ds = some bs → vs = bs.map V.bl
  | [], _, _, r, e => by cases e; exact r
  | .bool b :: ds, _, bs, r, e => by
    obtain ⟨v, u, rfl, h1, h2⟩ := r
    unfold blsOf at e
    cases q : blsOf ds with
    | none => rw [q] at e; cases e
    | some cs => rw [q] at e; cases e; rw [blsOf_rep h2 q]; cases (show v = _ from h1); rfl
  | .none :: _, _, _, _, e => by cases e
  | .int _ :: _, _, _, _, e => by cases e
  | .str _ :: _, _, _, _, e => by cases e
  | .tup _ :: _, _, _, _, e => by cases e
  | .rol _ :: _, _, _, _, e => by cases e
  | .ref _ :: _, _, _, _, e => by cases e
  | .ty _ :: _, _, _, _, e => by cases e
theorem intsOf_rep {K : PySem.W.Frag} {H : Hp} : ∀ {ds : List D} {vs : List V} {bs : List Int}, RepVs K H ds vs → intsOf ds = some bs → vs = bs.map V.int
  | [], _, _, r, e => by cases e; exact r
  | .int b :: ds, _, bs, r, e => by
    obtain ⟨v, u, rfl, h1, h2⟩ := r
    unfold intsOf at e
    cases q : intsOf ds with
    | none => rw [q] at e; cases e
    | some cs => rw [q] at e; cases e; rw [intsOf_rep h2 q]; cases (show v = _ from h1); rfl
  | .none :: _, _, _, _, e => by cases e
  | .bool _ :: _, _, _, _, e => by cases e
  | .str _ :: _, _, _, _, e => by cases e
  | .tup _ :: _, _, _, _, e => by cases e
  | .rol _ :: _, _, _, _, e => by cases e
  | .ref _ :: _, _, _, _, e => by cases e
  | .ty _ :: _, _, _, _, e => by cases e
theorem strsOf_rep {K : PySem.W.Frag} {H : Hp} : ∀ {ds : List D} {vs : List V} {bs : List Str}, RepVs K H ds vs → strsOf ds = some bs → vs = bs.map V.str ∧ ∀ z ∈ bs, okS z
  | [], _, _, r, e => by cases e; exact ⟨r, fun _ z => by cases z⟩
  | .str b :: ds, _, bs, r, e => by
    obtain ⟨v, u, rfl, h1, h2⟩ := r
    unfold strsOf at e
    cases q : strsOf ds with
    | none => rw [q] at e; cases e
    | some cs =>
      rw [q] at e; cases e
      obtain ⟨a, b'⟩ := strsOf_rep h2 q
      obtain ⟨rfl, ok⟩ := h1
      exact ⟨by rw [a]; rfl, fun z hz => (List.mem_cons.mp hz).elim (fun e => e ▸ ok) (b' z)⟩
  | .none :: _, _, _, _, e => by cases e
  | .bool _ :: _, _, _, _, e => by cases e
  | .int _ :: _, _, _, _, e => by cases e
  | .tup _ :: _, _, _, _, e => by cases e
  | .rol _ :: _, _, _, _, e => by cases e
  | .ref _ :: _, _, _, _, e => by cases e
  | .ty _ :: _, _, _, _, e => by cases e
theorem blsOf_map (bs : List Bool) : blsOf (bs.map D.bool) = some bs := by
  induction bs with
  | nil => rfl
  | cons b r ih => show (blsOf (r.map D.bool)).map (b :: ·) = _; rw [ih]; rfl
theorem intsOf_map (bs : List Int) : intsOf (bs.map D.int) = some bs := by
  induction bs with
  | nil => rfl
  | cons b r ih => show (intsOf (r.map D.int)).map (b :: ·) = _; rw [ih]; rfl
theorem strsOf_map (bs : List Str) : strsOf (bs.map D.str) = some bs := by
  induction bs with
  | nil => rfl
  | cons b r ih => show (strsOf (r.map D.str)).map (b :: ·) = _; rw [ih]; rfl
def blsK (k : List Bool → Prop) (h : MH) : D → Prop
  | .ref a => seqK (fun ds => ∃ bs, blsOf ds = some bs ∧ k bs) (seqO (h a))
  | .rol ds => ∃ bs, blsOf ds = some bs ∧ k bs
  | _ => False
def allD (x : D) (h : MH) (Q : KD) : Prop := blsK (fun bs => Q (.bool (bs.all id)) h) h x
def anyD (x : D) (h : MH) (Q : KD) : Prop := blsK (fun bs => Q (.bool (bs.any id)) h) h x
theorem blsK_rep {k : List Bool → Prop} {h : MH} {H : Hp} (hH : RepH X.K h H) {d : D} {v : V} (r : RepV X.K H d v) (q : blsK k h d) : ∃ a bs, v = .ref a ∧ SqL X.K H a (bs.map V.bl) ∧ k bs := by
  cases d <;> try exact q.elim
  case ref a =>
    cases (show v = _ from r)
    have q : seqK (fun ds => ∃ bs, blsOf ds = some bs ∧ k bs) (seqO (h a)) := q
    cases e : h a with
    | none => rw [e] at q; exact q.elim
    | some o =>
      cases o with
      | lst ds =>
        rw [e] at q
        obtain ⟨bs, e1, kb⟩ := q
        obtain ⟨vs, eH, rv⟩ := hH a _ e
        have := blsOf_rep rv e1
        subst this
        exact ⟨a, bs, rfl, SqL.of eH, kb⟩
  case rol ds =>
    obtain ⟨a, vs, rfl, s, rv⟩ := r
    obtain ⟨bs, e1, kb⟩ := q
    have := blsOf_rep rv e1
    subst this
    exact ⟨a, bs, rfl, s.sq, kb⟩
theorem xd_all (hc : X.calm = true) : CallR X (.builtin "all") (lowC X.K (on1 allD)) := callR_1 fun x d h H Q QV rx hH hr hcl => by
  obtain ⟨a, bs, rfl, s, q⟩ := blsK_rep hH rx hr
  exact ⟨_, cr_all hc, a, bs, rfl, s, hcl.bl hH q⟩
theorem xd_any (hc : X.calm = true) : CallR X (.builtin "any") (lowC X.K (on1 anyD)) := callR_1 fun x d h H Q QV rx hH hr hcl => by
  obtain ⟨a, bs, rfl, s, q⟩ := blsK_rep hH rx hr
  exact ⟨_, cr_any hc, a, bs, rfl, s, hcl.bl hH q⟩
def intsK (k : List Int → Prop) (h : MH) : D → Prop
  | .ref a => seqK (fun ds => ∃ bs, intsOf ds = some bs ∧ k bs) (seqO (h a))
  | .rol ds => ∃ bs, intsOf ds = some bs ∧ k bs
  | _ => False
theorem intsK_rep {k : List Int → Prop} {h : MH} {H : Hp} (hH : RepH X.K h H) {d : D} {v : V} (r : RepV X.K H d v) (q : intsK k h d) : ∃ a bs, v = .ref a ∧ SqL X.K H a (bs.map V.int) ∧ k bs := by
  cases d <;> try exact q.elim
  case ref a =>
    cases (show v = _ from r)
    have q : seqK (fun ds => ∃ bs, intsOf ds = some bs ∧ k bs) (seqO (h a)) := q
    cases e : h a with
    | none => rw [e] at q; exact q.elim
    | some o =>
      cases o with
      | lst ds =>
        rw [e] at q
        obtain ⟨bs, e1, kb⟩ := q
        obtain ⟨vs, eH, rv⟩ := hH a _ e
        have := intsOf_rep rv e1
        subst this
        exact ⟨a, bs, rfl, SqL.of eH, kb⟩
  case rol ds =>
    obtain ⟨a, vs, rfl, s, rv⟩ := r
    obtain ⟨bs, e1, kb⟩ := q
    have := intsOf_rep rv e1
    subst this
    exact ⟨a, bs, rfl, s.sq, kb⟩
def sumD (x : D) (h : MH) (Q : KD) : Prop := intsK (fun bs => Q (.int bs.sum) h) h x
theorem xd_sum (hc : X.calm = true) : CallR X (.builtin "sum") (lowC X.K (on1 sumD)) := callR_1 fun x d h H Q QV rx hH hr hcl => by
  obtain ⟨a, bs, rfl, s, q⟩ := intsK_rep hH rx hr
  exact ⟨_, cr_sum hc, a, bs, rfl, s, hcl.int hH q⟩
def max2D : R1 := fun x y h Q => match x, y with
  | .int i, .int j => Q (.int (if j > i then j else i)) h
  | _, _ => False
def min2D : R1 := fun x y h Q => match x, y with
  | .int i, .int j => Q (.int (if j < i then j else i)) h
  | _, _ => False
theorem xd_max2 (hc : X.calm = true) : CallR X (.builtin "max") (lowC X.K (on2 max2D)) := callR_2 fun x y d e h H Q QV rx ry hH hr hcl => by
  cases d <;> cases e <;> try exact hr.elim
  case int.int i j =>
    cases (show x = _ from rx)
    cases (show y = _ from ry)
    exact ⟨_, call_max2 hc, i, j, rfl, hcl.int hH hr⟩
theorem xd_min2 (hc : X.calm = true) : CallR X (.builtin "min") (lowC X.K (on2 min2D)) := callR_2 fun x y d e h H Q QV rx ry hH hr hcl => by
  cases d <;> cases e <;> try exact hr.elim
  case int.int i j =>
    cases (show x = _ from rx)
    cases (show y = _ from ry)
    exact ⟨_, call_min2 hc, i, j, rfl, hcl.int hH hr⟩
/-! ### methods of lists and texts -/
abbrev M1 := D → List D → MH → KD → Prop
def lowM (K : PySem.W.Frag) (r : M1) : V → List V → Hp → VK → Prop := fun x vs H QV => ∃ d ds h Q, RepV K H d x ∧ RepVs K H ds vs ∧ RepH K h H ∧ r d ds h Q ∧ Cl K h H Q QV
theorem mtR_of {id : String} {r' : V → List V → Hp → VK → Prop} (h : ∀ x xs H Q, r' x xs H Q → ∃ r, MtR X id r ∧ r x xs H Q) : MtR X id r' := fun pins s σ H x xs v us Q I rx rs hr =>
  let ⟨r, ho, hq⟩ := h x xs H Q hr
  ho pins s σ H x xs v us Q I rx rs hq
def isLst (o : Option MO) : Prop := match o with
  | some (.lst _) => True
  | none => False
def okL (x : D) (h : MH) : Prop := match x with
  | .ref a => isLst (h a)
  | _ => False
theorem okL_rep {h : MH} {H : Hp} (hH : RepH X.K h H) {d : D} {v : V} (r : RepV X.K H d v) (q : okL d h) : tyV X.K "list" v H := by
  cases d <;> try exact q.elim
  case ref a =>
    cases (show v = _ from r)
    have q : isLst (h a) := q
    cases e : h a with
    | none => rw [e] at q; exact q.elim
    | some o =>
      cases o with
      | lst ds =>
        obtain ⟨vs, eH, _⟩ := hH a _ e
        exact .inl ⟨rfl, vs, SqL.of eH⟩
def dBM0 (ok : D → MH → Prop) (r : M1) (to : E1) : E1 := fun σ h Q => to σ h fun x h1 => ok x h1 ∧ r x [] h1 Q
def dBM (ok : D → MH → Prop) (r : M1) (to : E1) (t : A1) : E1 := fun σ h Q => to σ h fun x h1 => ok x h1 ∧ t σ h1 fun ds h2 => r x ds h2 Q
theorem de_lm0 {o : Expr} {to : E1} {r : M1} {name : Str} {id : String} {apos cpos : Pos} (slot : Slot "list" name id) (hty : typeOf (.builtin id) = pure (.type "method_descriptor")) (hm : MtR X id (lowM X.K r)) (ho : DE X o to)
    (hbase : attributeBase o name X.env (eval o X.env) = eval o X.env := by rfl) (hline : (apos.endLine == cpos.line) = true := by rfl) : DE X (.Call (.Attribute o name apos) [] [] cpos) (dBM0 okL r to) :=
  weakE (pe_bm0 PySem.F.plainAttrs_list slot hty hm ho hbase hline) fun σV H QV ⟨σ, h, Q, hE, hH, ht, hc⟩ => ⟨σ, h, _, hE, hH, ht, fun x h1 v H1 s1 hH1 r1 q => ⟨okL_rep hH1 r1 q.1, x, [], h1, Q, r1, rfl, hH1, q.2, hc.step s1⟩⟩
theorem de_lm {o e : Expr} {es : List Expr} {to : E1} {t : A1} {r : M1} {name : Str} {id : String} {apos cpos : Pos} (slot : Slot "list" name id) (hty : typeOf (.builtin id) = pure (.type "method_descriptor")) (hm : MtR X id (lowM X.K r)) (ho : DE X o to) (ha : DA X (e :: es) t)
    (hbase : attributeBase o name X.env (eval o X.env) = eval o X.env := by rfl)
    (hfew : ((backTo cpos (starEach (e :: es) X.env)).all (fun x => !x.1) && (backToKw cpos (keywordEach [] X.env)).all (fun x => x.1.isSome)
      && decide ((e :: es).length + ([] : List Keyword).length + (if ([] : List Keyword).isEmpty then 0 else 1) < 30)) = true := by rfl)
    (hline : (apos.endLine == cpos.line) = true := by rfl) (hs : starEach (e :: es) X.env = (false, eval e X.env) :: starEach es X.env := by rfl) (hplain : (backTo cpos (starEach es X.env)).any (·.1) = false := by rfl) :
    DE X (.Call (.Attribute o name apos) (e :: es) [] cpos) (dBM okL r to t) :=
  weakE (pe_bm PySem.F.plainAttrs_list slot hty hm ho ha hbase hfew hline hs hplain) fun σV H QV ⟨σ, h, Q, hE, hH, ht, hc⟩ => ⟨σ, h, _, hE, hH, ht, fun x h1 v H1 s1 hH1 r1 q => ⟨okL_rep hH1 r1 q.1, σ, h1, _, hE.mono (Stp.mo hH s1), hH1, q.2,
    fun ds h2 vs H2 s2 hH2 r2 q2 => ⟨x, ds, h2, Q, RepV.mono (Stp.mo hH1 s2) _ r1, r2, hH2, q2, hc.step (s1.trans s2)⟩⟩⟩
def lstK (k : List D → Prop) : Option MO → Prop
  | some (.lst xs) => k xs
  | none => False
theorem lstK_inv {k : List D → Prop} {o : Option MO} (q : lstK k o) : ∃ xs, o = some (.lst xs) ∧ k xs := by
  cases o with
  | none => exact q.elim
  | some o =>
    cases o with
    | lst xs => exact ⟨xs, rfl, q⟩
def appendD : M1 := fun x ds h Q => match x, ds with
  | .ref a, [d] => lstK (fun xs => xs.length < sizeLine ∧ Q .none (up h a (.lst (xs ++ [d])))) (h a)
  | _, _ => False
theorem xm_append : MtR X "list.append" (lowM X.K appendD) := mtR_of fun x vs H QV ⟨d, ds, h, Q, rx, rv, hH, hr, hc⟩ => by
  unfold appendD at hr
  split at hr
  · rename_i a e
    obtain ⟨xs, eh, hz, q⟩ := lstK_inv hr
    cases (show x = _ from rx)
    obtain ⟨v, rfl, r1⟩ := rep1 rv
    obtain ⟨us, eH, ru⟩ := hH a _ eh
    exact ⟨_, mt_append, a, us, v, rfl, rfl, eH, by rw [← ru.length]; exact hz, hc.write hH eh (.of (P2.append ru.pair (.cons r1 .nil))) (d := .none) rfl q⟩
  · exact hr.elim
def popD : M1 := fun x ds h Q => match x, ds with
  | .ref a, [] => lstK (fun xs => ∃ y, xs.getLast? = some y ∧ Q y (up h a (.lst xs.dropLast))) (h a)
  | .ref a, [.int i] => lstK (fun xs => ∃ k y, ixN xs.length i = some k ∧ xs[k]? = some y ∧ (-(2 ^ 63) ≤ i ∧ i < 2 ^ 63) ∧ Q y (up h a (.lst (xs.eraseIdx k)))) (h a)
  | _, _ => False
theorem xm_pop : MtR X "list.pop" (lowM X.K popD) := mtR_of fun x vs H QV ⟨d, ds, h, Q, rx, rv, hH, hr, hc⟩ => by
  unfold popD at hr
  split at hr
  · rename_i a
    obtain ⟨xs, eh, y, ey, q⟩ := lstK_inv hr
    cases (show x = _ from rx)
    cases (show vs = [] from rv)
    obtain ⟨us, eH, ru⟩ := hH a _ eh
    rw [List.getLast?_eq_getElem?] at ey
    obtain ⟨w, ew, rw'⟩ := P2.get ru.pair ey
    rw [ru.length] at ew
    exact ⟨_, mt_pop, a, us, w, rfl, rfl, eH, ew, hc.write hH eh (.of (P2.dropLast ru.pair)) rw' q⟩
  · rename_i a i
    obtain ⟨xs, eh, k, y, ek, ey, hb, q⟩ := lstK_inv hr
    cases (show x = _ from rx)
    obtain ⟨v, rfl, r1⟩ := rep1 rv
    cases (show v = _ from r1)
    obtain ⟨us, eH, ru⟩ := hH a _ eh
    obtain ⟨w, ew, rw'⟩ := P2.get ru.pair ey
    exact ⟨_, mt_popAt, a, us, i, k, w, rfl, rfl, eH, hb.1, hb.2, by rw [← ru.length]; exact (ixN_seq ek).1, ew, hc.write hH eh (.of (P2.eraseIdx k ru.pair)) rw' q⟩
  · exact hr.elim
def extendD : M1 := fun x ds h Q => match x, ds with
  | .ref a, [.ref b] => lstK (fun xs => lstK (fun ys => xs.length + ys.length ≤ sizeLine ∧ Q .none (up h a (.lst (xs ++ ys)))) (h b)) (h a)
  | _, _ => False
theorem xm_extend : MtR X "list.extend" (lowM X.K extendD) := mtR_of fun x vs H QV ⟨d, ds, h, Q, rx, rv, hH, hr, hc⟩ => by
  unfold extendD at hr
  split at hr
  · rename_i a b
    obtain ⟨xs, eh, hr⟩ := lstK_inv hr
    obtain ⟨ys, eh2, hz, q⟩ := lstK_inv hr
    cases (show x = _ from rx)
    obtain ⟨v, rfl, r1⟩ := rep1 rv
    cases (show v = _ from r1)
    obtain ⟨us, eH, ru⟩ := hH a _ eh
    obtain ⟨ws, eH2, ru2⟩ := hH b _ eh2
    exact ⟨_, mt_extend, a, b, us, ws, rfl, rfl, eH, eH2, by rw [← ru.length, ← ru2.length]; exact hz, hc.write hH eh (.of (P2.append ru.pair ru2.pair)) (d := .none) rfl q⟩
  · exact hr.elim
/-! texts -/
theorem len_joinL (S : List Nat) : ∀ ps : List (List Nat), (TL.joinL S ps).length ≤ (ps.map (·.length)).sum + ps.length * S.length
  | [] => by simp [TL.joinL]
  | [p] => by simp [TL.joinL]
  | p :: q :: r => by
    have ih := len_joinL S (q :: r)
    show (p ++ (S ++ TL.joinL S (q :: r))).length ≤ _
    rw [List.length_append, List.length_append, List.map_cons, List.sum_cons]
    have e : (p :: q :: r).length * S.length = (q :: r).length * S.length + S.length := by rw [List.length_cons, Nat.add_one_mul]
    omega
theorem mem_joinL {c : Nat} (S : List Nat) : ∀ ps : List (List Nat), c ∈ TL.joinL S ps → c ∈ S ∨ ∃ p ∈ ps, c ∈ p
  | [], h => by simp [TL.joinL] at h
  | [p], h => .inr ⟨p, by simp, h⟩
  | p :: q :: r, h => by
    have h' : c ∈ p ++ (S ++ TL.joinL S (q :: r)) := h
    rcases List.mem_append.mp h' with h | h
    · exact .inr ⟨p, by simp, h⟩
    · rcases List.mem_append.mp h with h | h
      · exact .inl h
      · rcases mem_joinL S (q :: r) h with h | ⟨p', a, b⟩
        · exact .inl h
        · exact .inr ⟨p', by simp at a ⊢; right; exact a, b⟩
theorem strOk_iff {x : Str} : PyData.strOk x = true ↔ ∀ c ∈ x.cps.toList, c < 0x110000 := by
  unfold PyData.strOk
  rw [← Array.all_toList, List.all_eq_true]
  simp
theorem join_tl (a : Str) (ys : List Str) : (Txt.join a ys).cps.toList = TL.joinL a.cps.toList (ys.map fun y => y.cps.toList) := by
  rw [TL.join_eq]; exact TL.tl_join a ys
theorem okS.join {a : Str} {ys : List Str} (oa : okS a) (oy : ∀ z ∈ ys, okS z) (h : (ys.map (·.length)).sum + ys.length * a.length ≤ sizeLine) : okS (Txt.join a ys) := by
  refine ⟨?_, ?_⟩
  · have := len_joinL a.cps.toList (ys.map fun y => y.cps.toList)
    rw [← join_tl, List.map_map, List.length_map] at this
    have e : ys.map ((fun x => x.length) ∘ fun y : Str => y.cps.toList) = ys.map (·.length) := List.map_congr_left fun z _ => by show z.cps.toList.length = z.cps.size; exact Array.length_toList
    rw [e] at this
    have l : (Txt.join a ys).length = (Txt.join a ys).cps.toList.length := (Array.length_toList).symm
    have l2 : a.cps.toList.length = a.length := Array.length_toList
    rw [l]; rw [l2] at this; omega
  · rw [strOk_iff, join_tl]
    intro c hc
    rcases mem_joinL _ _ hc with h | ⟨p, hp, h⟩
    · exact strOk_iff.mp oa.2 c h
    · obtain ⟨z, hz, rfl⟩ := List.mem_map.mp hp
      exact strOk_iff.mp (oy z hz).2 c h
def joinK (a : Str) (h : MH) (Q : KD) (ds : List D) : Prop := ∃ ys, strsOf ds = some ys ∧ (ys.map (·.length)).sum + ys.length * a.length ≤ sizeLine ∧ Q (.str (Txt.join a ys)) h
def joinD : R1 := fun x y h Q => match x with
  | .str a => seqK (joinK a h Q) (seqOf h y)
  | _ => False
def dJoin (to te : E1) : E1 := fun σ h Q => to σ h fun x h1 => (∃ z, x = .str z) ∧ te σ h1 fun y h2 => joinD x y h2 Q
theorem de_join {o e : Expr} {to te : E1} {apos pos : Pos} (ho : DE X o to) (he : DE X e te) (hs : starEach [e] X.env = [(false, eval e X.env)] := by rfl) (hbase : attributeBase o "join" X.env (eval o X.env) = eval o X.env := by rfl) (hline : (apos.endLine == pos.line) = true := by rfl) :
    DE X (.Call (.Attribute o "join" apos) [e] [] pos) (dJoin to te) :=
  weakE (pe_join ho he hs hbase hline) fun σV H QV ⟨σ, h, Q, hE, hH, ht, hc⟩ => by
    refine ⟨σ, h, _, hE, hH, ht, fun x h1 v H1 s1 hH1 r1 q => ?_⟩
    obtain ⟨⟨z, rfl⟩, q⟩ := q
    obtain ⟨rfl, oz⟩ := r1
    refine ⟨⟨z, rfl⟩, σ, h1, _, hE.mono (Stp.mo hH s1), hH1, q, fun y h2 u H2 s2 hH2 r2 q2 => ?_⟩
    have q2 : seqK (joinK z h2 Q) (seqOf h2 y) := q2
    cases e2 : seqOf h2 y with
    | none => rw [e2] at q2; exact q2.elim
    | some ds =>
      rw [e2] at q2
      obtain ⟨ys, e3, hz, q3⟩ := q2
      obtain ⟨a, vs, rfl, rv, hs⟩ := seq_rep hH2 r2 e2
      obtain ⟨rfl, oy⟩ := strsOf_rep rv e3
      exact ⟨z, a, ys, rfl, rfl, hs, hz, (hc.step (s1.trans s2)).str hH2 (oz.join oy hz) q3⟩
/-! ### calls of defs -/
abbrev P1 := List D → MH → KD → Prop
def lowP (K : PySem.W.Frag) (sp : P1) : Sp := fun vs H QV _ => lowC K sp vs H QV
theorem de_call {k : Nat} {f : Addr} {fd : FuncData} {ps : List Str} {sp : P1} {x : Str} {e : Expr} {es : List Expr} {t : A1} {p pos : Pos} (F : FnOk X.prog X.w X.K X.mg X.base CX0 k f fd ps (lowP X.K sp)) (hr : Room k X.A) (hg : Gl X x) (hm : X.mg x = some (.ref f)) (hk : PySem.W.keepIn X.K (.ref f) = true) (hb : Binds X.K fd ps [])
    (ha : DA X (e :: es) t) (hdb : (x == ("__debug__" : Str)) = false := by decide) (he : starEach (e :: es) X.env = (false, eval e X.env) :: starEach es X.env := by rfl) (hpl : (backTo pos (starEach es X.env)).any (·.1) = false := by rfl) :
    DE X (.Call (.Name x p) (e :: es) [] pos) (dCall sp t) :=
  weakE (pe_call F hr hg hm hk hb .nil pass0 ha hdb he hpl) fun σV H QV ⟨σ, h, Q, hE, hH, ht, hc⟩ =>
    ⟨σ, h, _, hE, hH, ht, fun ds h1 vs H1 s1 hH1 r1 q => by
      show lowC X.K sp (vs ++ []) H1 QV
      rw [List.append_nil]
      exact ⟨ds, h1, Q, r1, hH1, q, hc.step s1⟩⟩
theorem de_call0 {k : Nat} {f : Addr} {fd : FuncData} {ps : List Str} {sp : P1} {x : Str} {p pos : Pos} (F : FnOk X.prog X.w X.K X.mg X.base CX0 k f fd ps (lowP X.K sp)) (hr : Room k X.A) (hg : Gl X x) (hm : X.mg x = some (.ref f)) (hk : PySem.W.keepIn X.K (.ref f) = true) (hb : Binds X.K fd ps [])
    (hdb : (x == ("__debug__" : Str)) = false := by decide) : DE X (.Call (.Name x p) [] [] pos) (dCall sp dNil) :=
  weakE (pe_call0 F hr hg hm hk hb .nil pass0 hdb) fun σV H QV ⟨σ, h, Q, hE, hH, ht, hc⟩ => (show lowC X.K sp ([] ++ []) H QV from ⟨[], h, Q, rfl, hH, ht, hc⟩)
end
def startD (n : Nat) (ds : List D) : Sl := ds.map some ++ List.replicate (n - ds.length) none
theorem nth_append_none : ∀ (a : Sl) (n : Nat) (i : Nat) {d : D}, nth (a ++ List.replicate n none) i = some d → nth a i = some d
  | [], 0, _, _, h => by cases h
  | [], n + 1, 0, _, h => by cases h
  | [], n + 1, i + 1, _, h => nth_append_none [] n i h
  | x :: r, n, 0, _, h => h
  | x :: r, n, i + 1, _, h => nth_append_none r n i h
theorem rep_start {K : PySem.W.Frag} {H : Hp} {N : List Str} {ds : List D} {vs : List V} (r : RepVs K H ds vs) : RepE K H (startD N.length ds) (L2.start N vs) := by
  refine ⟨?_, fun i d e => ?_⟩
  · unfold startD L2.start
    rw [List.length_append, List.length_append, List.length_map, List.length_map, List.length_replicate, List.length_replicate, r.length]
  · have q := nth_append_none _ _ _ e
    have look : ∀ (ds : List D) (i : Nat) {d : D}, nth (ds.map some) i = some d → ds[i]? = some d := by
      intro ds
      induction ds with
      | nil => intro i d h; cases h
      | cons x r ih =>
        intro i d h
        cases i with
        | zero => exact h
        | succ n => rw [List.getElem?_cons_succ]; exact ih n h
    obtain ⟨v, ev, rv⟩ := P2.get r.pair (look ds i q)
    refine ⟨v, ?_, rv⟩
    unfold L2.start
    rw [List.getElem?_append_left (by rw [List.length_map]; exact (List.getElem?_eq_some_iff.mp ev).1), List.getElem?_map, ev]; rfl
/-- at less -/
def Lh (Q : KD) : KD := fun d h => ∃ h0, le h0 h ∧ Q d h0
def endN (Q : KD) : Nd := { nx := fun _ h => Lh Q .none h, rt := Lh Q }
theorem df_ok {P : Program} {w : World} {K : PySem.W.Frag} {mg : Str → Option Value} {base : Heap} {x qual : Str} {st : Stmt} {f : Addr} {fd : FuncData} {N ps : List Str} {k : Nat} {sp : P1} (F : Fun K x qual st f fd) (S : FnScope N ps (defScope st)) (len : ∀ ds h Q, sp ds h Q → ds.length = ps.length)
    (hbody : ∀ (cdv : Value) (A : Around) (outer : List Env) (s : Shared) (H : Hp) (E : XK), Room k (A.deeper (envOfC qual (defScope st) s.heap.objs.size f cdv)) →
      ∃ t, DSs (cxOf CX0 P w K mg base N qual (defScope st) f cdv A outer s H E).nox (defBody st) t ∧ ∀ ds h Q, sp ds h Q → t (endN Q) (startD N.length ds) h) : FnOk P w K mg base CX0 (k + 1) f fd ps (lowP K sp) := by
  refine F.ok S (fun vs H QV E ⟨ds, h, Q, rv, hH, hs, hc⟩ => by rw [← rv.length]; exact len _ _ _ hs) fun cdv A outer s H vs QV E hr hq => ?_
  obtain ⟨t, ht, hb⟩ := hbody cdv A outer s H E hr
  obtain ⟨ds, h, Q, rv, hH, hs, hc⟩ := hq
  refine ⟨_, ht, endN Q, startD N.length ds, h, rep_start rv, hH, hb ds h Q hs, ?_, ?_, ?_, ?_⟩
  · rintro σ' h' σV' H' s' e' r' ⟨h0, w0, q⟩
    exact hc .none h0 .non H' (s'.low w0) (r'.low w0) rfl q
  · rintro d h' v H' s' r' rv' ⟨h0, w0, q⟩
    exact hc d h0 v H' (s'.low w0) (r'.low w0) rv' q
  · intro _ _ _ _ _ _ _ z; exact z.elim
  · intro _ _ _ _ _ _ _ z; exact z.elim
end DL
namespace DL
open PySem PySem.Spec PyProof.Rows L2
section
variable {P : Program} {w : World} {K : PySem.W.Frag} {mg : Str → Option Value} {base : Heap}
/-- a def of the top, as it stands -/
structure TopF (K : PySem.W.Frag) (mg : Str → Option Value) (x qual : Str) (st : Stmt) (ps : List Str) : Prop where
  ex : ∃ f fd, Fun K x qual st f fd ∧ mg x = some (.ref f) ∧ L2.Binds K fd ps []
/-- a def that keeps its promise, ready for calls -/
structure Good (P : Program) (w : World) (K : PySem.W.Frag) (mg : Str → Option Value) (base : Heap) (k : Nat) (x : Str) (ps : List Str) (sp : P1) : Prop where
  ex : ∃ f fd, FnOk P w K mg base CX0 k f fd ps (lowP K sp) ∧ mg x = some (.ref f) ∧ PySem.W.keepIn K (.ref f) = true ∧ L2.Binds K fd ps []
theorem good_ok {x qual : Str} {st : Stmt} {N ps : List Str} {k : Nat} {sp : P1} {t : S1} (T : TopF K mg x qual st ps) (S : FnScope N ps (defScope st)) (len : ∀ ds h Q, sp ds h Q → ds.length = ps.length)
    (body : ∀ (f : Addr) (cdv : Value) (A : Around) (outer : List Env) (s : Shared) (H : Hp) (E : XK), Room k (A.deeper (envOfC qual (defScope st) s.heap.objs.size f cdv)) →
      DSs (cxOf CX0 P w K mg base N qual (defScope st) f cdv A outer s H E).nox (defBody st) t) (sat : ∀ ds h Q, sp ds h Q → t (endN Q) (startD N.length ds) h) : Good P w K mg base (k + 1) x ps sp := by
  obtain ⟨f, fd, F, m, b⟩ := T.ex
  exact ⟨f, fd, df_ok F S len fun cdv A outer s H E hr => ⟨t, body f cdv A outer s H E hr, sat⟩, m, F.kp, b⟩
theorem Good.mono {x : Str} {ps : List Str} {sp : P1} {j k : Nat} (G : Good P w K mg base j x ps sp) (h : j ≤ k) : Good P w K mg base k x ps sp := by
  obtain ⟨f, fd, F, m, kp, b⟩ := G.ex
  exact ⟨f, fd, F.mono h, m, kp, b⟩
end
section
variable {X : Cx}
theorem de_callG {k j : Nat} {ps : List Str} {sp : P1} {x : Str} {e : Expr} {es : List Expr} {t : A1} {p pos : Pos} (G : Good X.prog X.w X.K X.mg X.base j x ps sp) (hr : Room k X.A) (hj : j ≤ k) (hg : Gl X x)
    (ha : DA X (e :: es) t) (hdb : (x == ("__debug__" : Str)) = false := by decide) (he : starEach (e :: es) X.env = (false, eval e X.env) :: starEach es X.env := by rfl) (hpl : (backTo pos (starEach es X.env)).any (·.1) = false := by rfl) :
    DE X (.Call (.Name x p) (e :: es) [] pos) (dCall sp t) := by
  obtain ⟨f, fd, F, m, kp, b⟩ := G.ex
  exact de_call F (hr.mono hj) hg m kp b ha hdb he hpl
theorem de_callG0 {k j : Nat} {ps : List Str} {sp : P1} {x : Str} {p pos : Pos} (G : Good X.prog X.w X.K X.mg X.base j x ps sp) (hr : Room k X.A) (hj : j ≤ k) (hg : Gl X x) (hdb : (x == ("__debug__" : Str)) = false := by decide) :
    DE X (.Call (.Name x p) [] [] pos) (dCall sp dNil) := by
  obtain ⟨f, fd, F, m, kp, b⟩ := G.ex
  exact de_call0 F (hr.mono hj) hg m kp b hdb
end
/-- from what the top has written -/
theorem top_mk {K : PySem.W.Frag} {h : Heap} {mg : Str → Option Value} (X : K.In h) (G : h.Ns mainGlobals mg) {x qual : Str} {st : Stmt} {ps : List Str} {f : Addr} {oc : Value} {od an : Option Addr} {osl : Array (Option Value)} {kV doc pm cdv ct : Value}
    (a : PySem.W.nsIn K mainGlobals x = some (some (.ref f))) (l : K.lookup f = some ⟨oc, od, .func (PySem.W.fnOf x qual (defArgs st) (defBody st) (defScope st) .none kV doc pm an cdv ct), osl⟩)
    (c : PySem.W.codeIn K cdv qual = true) (k : PySem.W.keepIn K (.ref f) = true)
    (b : ∀ (kV doc pm : Value) (an : Option Addr) (cdv ct : Value) (us : List Value), us.length = ps.length → bindArgs (PySem.W.fnOf x qual (defArgs st) (defBody st) (defScope st) .none kV doc pm an cdv ct) ⟨us, []⟩ = pure (ps.zip us)) : TopF K mg x qual st ps :=
  have F := fun_mk (st := st) l c k
  ⟨f, _, F, PySem.W.mg_of X G a, F.binds b⟩
/-- the law's own end -/
def spLaw : P1 := fun ds h Q => ∃ ns : List Int, ds = [.rol (ns.map D.int)] ∧ ns.length ≤ 63 ∧ ∀ h', Q (.bool true) h'
theorem rol_of {K : PySem.W.Frag} {H : Hp} (o : Only H) {a : Addr} {xs : List V} (s : SqL K H a xs) : ROL K H a xs := by
  rcases s with (s | ⟨ob, s⟩) | s
  · rcases o a with n | ⟨_, _, n⟩ <;> (rw [n] at s; cases s)
  · exact .inl ⟨ob, s⟩
  · exact .inr s
theorem reps_ints {K : PySem.W.Frag} {H : Hp} : ∀ ns : List Int, RepVs K H (ns.map D.int) (ns.map V.int)
  | [] => rfl
  | n :: r => ⟨_, _, rfl, rfl, reps_ints r⟩
theorem law_start {K : PySem.W.Frag} {H : Hp} {a : Addr} {ns : List Int} (hl : ns.length ≤ 63) (o : Only H) (s : SqL K H a (ns.map V.int)) : lowP K spLaw [.ref a] H (fun v _ => v = .bl true) fun _ _ _ => False := by
  refine ⟨[.rol (ns.map D.int)], fun _ => none, fun d _ => d = .bool true, ⟨_, _, rfl, ⟨a, _, rfl, rol_of o s, reps_ints ns⟩, rfl⟩, (fun a o e => nomatch e), ⟨ns, rfl, hl, fun _ => rfl⟩, fun d h' v H' _ _ r q => ?_⟩
  subst q
  exact r
theorem good_end {P : Program} {w : World} {K : PySem.W.Frag} {mg : Str → Option Value} {base : Heap} {k : Nat} {x : Str} {ps : List Str} {sp : P1} {st : Stmt} {qual : Str} {f : Addr} {oc : Value} {od an : Option Addr} {osl : Array (Option Value)} {kV doc pm cdv ct : Value} (G : Good P w K mg base k x ps sp) (m : mg x = some (.ref f)) :
    ∃ fd, FnOk P w K mg base CX0 k f fd ps (lowP K sp) ∧ L2.Binds K fd ps [] := by
  obtain ⟨g, fd, F, m', kp, b⟩ := G.ex
  rw [m] at m'
  cases m'
  exact ⟨fd, F, b⟩
end DL
namespace DL
open PySem PySem.Spec PyProof.Rows L2
/-! ### evaluation by simp -/
abbrev D1 := DL.D
theorem atI_z {α : Type} (x : α) (r : List α) : atI (x :: r) 0 = some x := atI_nat (j := 0) rfl
theorem atI_1 {α : Type} (x y : α) (r : List α) : atI (x :: y :: r) 1 = some y := atI_nat (j := 1) rfl
theorem atI_2 {α : Type} (x y z : α) (r : List α) : atI (x :: y :: z :: r) 2 = some z := atI_nat (j := 2) rfl
theorem atI_3 {α : Type} (x y z u : α) (r : List α) : atI (x :: y :: z :: u :: r) 3 = some u := atI_nat (j := 3) rfl
theorem atI_4 {α : Type} (x y z u v : α) (r : List α) : atI (x :: y :: z :: u :: v :: r) 4 = some v := atI_nat (j := 4) rfl
theorem ixN_of {n : Nat} {i : Int} {k : Nat} (e : i = (k : Int)) (h : k < n) : ixN n i = some k := by
  subst e
  unfold ixN
  rw [if_pos (by omega), if_pos (by omega)]; rfl
theorem ixN_last {n : Nat} (h : 0 < n) : ixN n (-1) = some (n - 1) := by
  unfold ixN
  rw [if_neg (by omega), if_pos (by omega)]
  congr 1; omega
theorem atI_of {α : Type} {xs : List α} {i : Int} {k : Nat} {x : α} (e : i = (k : Int)) (h : xs[k]? = some x) : atI xs i = some x := by subst e; exact atI_nat h
theorem atI_neg {α : Type} {xs : List α} {x : α} (h : xs.getLast? = some x) : atI xs (-1) = some x := by
  unfold atI
  cases xs with
  | nil => cases h
  | cons y r =>
    rw [ixN_last (by rw [List.length_cons]; omega)]
    rw [List.getLast?_eq_getElem?] at h
    exact h
theorem lh_of {Q : KD} {d : D} {h : MH} (q : Q d h) : Lh Q d h := ⟨h, le.refl, q⟩
theorem up_com {h : MH} {a b : Addr} {x y : MO} (n : a ≠ b) : up (up h a x) b y = up (up h b y) a x := by
  funext c; unfold up; by_cases p : c = a <;> by_cases q : c = b <;> simp_all
/-- equality of data -/
theorem eqv_int (i j : Int) : PyData.eqv (.int i) (.int j) = decide (i = j) := by simp [PyData.eqv, Bool.beq_eq_decide_eq]
theorem eqv_str (i j : Str) : PyData.eqv (.str i) (.str j) = decide (i = j) := by
  simp only [PyData.eqv]
  by_cases e : i = j
  · subst e; simp
  · rw [decide_eq_false e]; exact beq_eq_false_iff_ne.mpr e
section
variable {σ : Sl} {h : MH} {Q : KD} {D : Nd}
/-! every step by its form; nothing is opened that is not at hand -/
theorem e_seq {t u : S1} : dSeq t u D σ h = t { D with nx := u D } σ h := rfl
theorem e_next : dNext D σ h = D.nx σ h := rfl
theorem e_brk : dBrk D σ h = D.bk σ h := rfl
theorem e_cnt : dCnt D σ h = D.ct σ h := rfl
theorem e_drop {t : E1} : dDrop t D σ h = t σ h fun _ h1 => D.nx σ h1 := rfl
theorem e_ret {t : E1} : dRet t D σ h = t σ h D.rt := rfl
theorem e_retN : dRetN D σ h = D.rt .none h := rfl
theorem e_ifS {c : T1} {t u : S1} : dIfS c t u D σ h = c σ h fun b h1 => if b = true then t D σ h1 else u D σ h1 := rfl
theorem e_asg {t : E1} {g : G1} : dAsg t g D σ h = t σ h fun x h1 => g x σ h1 D.nx := rfl
theorem e_gN {i : Nat} {d : D1} {n : Sl → MH → Prop} : gN i d σ h n = n (put σ i (some d)) h := rfl
theorem e_gSb {to ti : E1} {t : Set1} {d : D1} {n : Sl → MH → Prop} : gSb to ti t d σ h n = to σ h fun o h1 => ti σ h1 fun i h2 => t o i d h2 fun h3 => n σ h3 := rfl
theorem e_gTp {k : Nat} {gs : Gs1} {ds : List D1} {n : Sl → MH → Prop} : gTp k gs (.tup ds) σ h n = (ds.length = k ∧ gs ds σ h n) := rfl
theorem e_gCn {g : G1} {gs : Gs1} {d : D1} {r : List D1} {n : Sl → MH → Prop} : gCn g gs (d :: r) σ h n = g d σ h fun σ' h' => gs r σ' h' n := rfl
theorem e_gNl {n : Sl → MH → Prop} : gNl [] σ h n = n σ h := rfl
def varK (o : Option D1) (h : MH) (Q : KD) : Prop := match o with | some d => Q d h | none => False
theorem e_var {i : Nat} : dVar i σ h Q = varK (nth σ i) h Q := rfl
theorem e_varK {d : D1} : varK (some d) h Q = Q d h := rfl
theorem e_nth0 {x : Option D1} {r : Sl} : nth (x :: r) 0 = x := rfl
theorem e_nthS {x : Option D1} {r : Sl} {n : Nat} : nth (x :: r) (n + 1) = nth r n := rfl
theorem e_put0 {x d : Option D1} {r : Sl} : put (x :: r) 0 d = d :: r := rfl
theorem e_putS {x d : Option D1} {r : Sl} {n : Nat} : put (x :: r) (n + 1) d = x :: put r n d := rfl
theorem e_c {d : D1} : dC d σ h Q = Q d h := rfl
theorem e_op {r : R1} {ta tb : E1} : dOp r ta tb σ h Q = ta σ h fun x h1 => tb σ h1 fun y h2 => r x y h2 Q := rfl
theorem e_un {r : D1 → MH → KD → Prop} {t : E1} : dUn r t σ h Q = t σ h fun x h1 => r x h1 Q := rfl
theorem e_call {r : C1} {t : A1} : dCall r t σ h Q = t σ h fun ds h1 => r ds h1 Q := rfl
theorem e_nil {QA : List D1 → MH → Prop} : dNil σ h QA = QA [] h := rfl
theorem e_cons {t : E1} {r : A1} {QA : List D1 → MH → Prop} : dCons t r σ h QA = t σ h fun x h1 => r σ h1 fun xs h2 => QA (x :: xs) h2 := rfl
theorem e_tup {t : A1} : dTup t σ h Q = t σ h fun ds h1 => ds.length ≤ sizeLine ∧ Q (.tup ds) h1 := rfl
theorem e_lst {t : A1} : dLst t σ h Q = t σ h fun ds h1 => ds.length ≤ sizeLine ∧ ∀ p, h1 p = none → Q (.ref p) (up h1 p (.lst ds)) := rfl
theorem e_test {t : E1} {QB : Bool → MH → Prop} : dTest t σ h QB = t σ h (asB QB) := rfl
theorem e_asB {k : Bool} {QB : Bool → MH → Prop} : asB QB (.bool k) h = QB k h := rfl
theorem e_tru {t : E1} {QB : Bool → MH → Prop} : dTru t σ h QB = t σ h fun x h1 => truD x h1 QB := rfl
theorem e_andT {t u : T1} {QB : Bool → MH → Prop} : dAndT t u σ h QB = t σ h fun c h1 => if c = true then u σ h1 QB else QB false h1 := rfl
theorem e_orT {t u : T1} {QB : Bool → MH → Prop} : dOrT t u σ h QB = t σ h fun c h1 => if c = true then QB true h1 else u σ h1 QB := rfl
theorem e_notT {t : T1} {QB : Bool → MH → Prop} : dNotT t σ h QB = t σ h fun c h1 => QB (!c) h1 := rfl
theorem e_andV {t u : E1} : dAndV t u σ h Q = t σ h (asB fun c h1 => if c = true then u σ h1 Q else Q (.bool false) h1) := rfl
theorem e_orV {t u : E1} : dOrV t u σ h Q = t σ h (asB fun c h1 => if c = true then Q (.bool true) h1 else u σ h1 Q) := rfl
theorem e_notV {t : E1} : dNotV t σ h Q = t σ h (asB fun c h1 => Q (.bool (!c)) h1) := rfl
theorem e_if {t : T1} {ta tb : E1} : dIf t ta tb σ h Q = t σ h fun c h1 => if c = true then ta σ h1 Q else tb σ h1 Q := rfl
theorem e_aug {i : Nat} {t : E1} {r : R1} : dAug i t r D σ h = varK (nth σ i) h fun x h0 => t σ h0 fun y h1 => r x y h1 fun z h2 => D.nx (put σ i (some z)) h2 := by
  unfold dAug varK; cases nth σ i <;> rfl
theorem e_augS {to ti te : E1} {r : R1} : dAugS to ti te r D σ h = to σ h fun o h1 => ti σ h1 fun i h2 => getD1 o i h2 fun x h3 => te σ h3 fun y h4 => r x y h4 fun z h5 => setD o i z h5 fun h6 => D.nx σ h6 := rfl
theorem e_sl {t : E1} {tl tu : O1} : dSl t tl tu σ h Q = t σ h fun x h1 => tl σ h1 fun lo h2 => tu σ h2 fun hi h3 => slD x lo hi h3 Q := rfl
def partK (x : D1) (h : MH) (QO : Option Int → MH → Prop) : Prop := match x with | .int i => QO (some i) h | _ => False
theorem e_part {t : E1} {QO : Option Int → MH → Prop} : dPart t σ h QO = t σ h fun x h1 => partK x h1 QO := rfl
theorem e_partK {i : Int} {QO : Option Int → MH → Prop} : partK (.int i) h QO = QO (some i) h := rfl
theorem e_noPart {QO : Option Int → MH → Prop} : dNoPart σ h QO = QO none h := rfl
theorem e_bm0 {ok : D1 → MH → Prop} {r : M1} {to : E1} : dBM0 ok r to σ h Q = to σ h fun x h1 => ok x h1 ∧ r x [] h1 Q := rfl
theorem e_bm {ok : D1 → MH → Prop} {r : M1} {to : E1} {t : A1} : dBM ok r to t σ h Q = to σ h fun x h1 => ok x h1 ∧ t σ h1 fun ds h2 => r x ds h2 Q := rfl
theorem e_join {to te : E1} : dJoin to te σ h Q = to σ h fun x h1 => (∃ z, x = .str z) ∧ te σ h1 fun y h2 => joinD x y h2 Q := rfl
theorem e_yes {QB : Bool → MH → Prop} : dYes σ h QB = QB true h := rfl
theorem e_wipe0 : wipeD σ [] = σ := rfl
theorem e_wipeS {v : Nat} {vs : List Nat} : wipeD σ (v :: vs) = put (wipeD σ vs) v none := rfl
/-- a comprehension behind its source -/
def lcT (xs : List D1) (stab : MH → Prop) (g : G1) (tt : T1) (te : E1) (vs : List Nat) (σ : Sl) (Q : KD) (h1 : MH) : Prop := xs.length ≤ sizeLine ∧ ∃ I : Nat → List D1 → MH → Prop, (∃ h0, le h0 h1 ∧ I 0 [] h0) ∧ (∀ i a h, I i a h → stab h) ∧
  (∀ i x a h, xs[i]? = some x → I i a h → g x (wipeD σ vs) h fun σ2 h2 => tt σ2 h2 fun b h3 => if b = true then te σ2 h3 fun y h4 => ∃ h5, le h5 h4 ∧ I (i + 1) (a ++ [y]) h5 else ∃ h5, le h5 h3 ∧ I (i + 1) a h5) ∧
  ∀ a h, I xs.length a h → ∀ p, h p = none → Q (.ref p) (up h p (.lst a))
theorem e_lc {it : I1} {g : G1} {tt : T1} {te : E1} {vs : List Nat} : dLc it g tt te vs σ h Q = it σ h fun xs stab h1 => lcT xs stab g tt te vs σ Q h1 := rfl
/-- a for behind its source -/
def forT (xs : List D1) (stab : MH → Prop) (g : G1) (tb : S1) (D : Nd) (σ : Sl) (h1 : MH) : Prop := ∃ I : Nat → Sl → MH → Prop, Lw (I 0) σ h1 ∧ (∀ i σ h, I i σ h → stab h) ∧
  (∀ i x σ h, xs[i]? = some x → I i σ h → g x σ h fun σ2 h2 => tb { D with nx := Lw (I (i + 1)), ct := Lw (I (i + 1)), bk := D.nx } σ2 h2) ∧ ∀ σ h, I xs.length σ h → D.nx σ h
theorem e_for {it : I1} {g : G1} {tb : S1} : dFor it g tb D σ h = it σ h fun xs stab h1 => forT xs stab g tb D σ h1 := rfl
/-- the value is f of the item, nothing is changed -/
theorem lcT_map {xs : List D1} {stab : MH → Prop} {g : G1} {te : E1} {vs : List Nat} (f : D1 → D1) (hz : xs.length ≤ sizeLine) (hs : stab h)
    (he : ∀ x ∈ xs, ∀ Q' : KD, Q' (f x) h → g x (wipeD σ vs) h fun σ2 h2 => te σ2 h2 Q') (fin : ∀ p, h p = none → Q (.ref p) (up h p (.lst (xs.map f)))) : lcT xs stab g dYes te vs σ Q h := by
  refine ⟨hz, fun i a hh => hh = h ∧ a = (xs.take i).map f, ⟨h, le.refl, rfl, rfl⟩, fun i a hh e => by rw [e.1]; exact hs, ?_, ?_⟩
  · rintro i x a hh hx ⟨rfl, rfl⟩
    obtain ⟨hi, ex⟩ := List.getElem?_eq_some_iff.mp hx
    refine he x (List.mem_of_getElem? hx) (fun y h4 => ∃ h5, le h5 h4 ∧ h5 = hh ∧ (xs.take i).map f ++ [y] = (xs.take (i + 1)).map f) ⟨hh, le.refl, rfl, ?_⟩
    rw [List.take_succ_eq_append_getElem hi, List.map_append, ex]; rfl
  · rintro a hh ⟨rfl, rfl⟩ p np
    rw [List.take_length]
    exact fin p np
/-! values -/
theorem v_add {i j : Int} : addD (.int i) (.int j) h Q = Q (.int (i + j)) h := rfl
theorem v_addS {a b : Str} : addD (.str a) (.str b) h Q = (a.length + b.length ≤ sizeLine ∧ Q (.str (a ++ b)) h) := rfl
theorem v_addT {a b : List D1} : addD (.tup a) (.tup b) h Q = (a.length + b.length ≤ sizeLine ∧ Q (.tup (a ++ b)) h) := rfl
theorem v_iadd {i j : Int} : iaddD (.int i) (.int j) h Q = Q (.int (i + j)) h := rfl
theorem v_sub {i j : Int} : subD (.int i) (.int j) h Q = Q (.int (i - j)) h := rfl
theorem v_mul {i j : Int} : mulD (.int i) (.int j) h Q = (mulOk i j ∧ Q (.int (i * j)) h) := rfl
theorem v_fdiv {i j : Int} : fdivD (.int i) (.int j) h Q = (divOk j ∧ Q (.int (i / j)) h) := rfl
theorem v_mod {i j : Int} : modD (.int i) (.int j) h Q = (0 < j ∧ Q (.int (i % j)) h) := rfl
theorem v_pow {i j : Int} : powD (.int i) (.int j) h Q = (CPow i j ∧ Q (.int (i ^ j.toNat)) h) := rfl
theorem v_shl {i j : Int} : shlD (.int i) (.int j) h Q = (CPow i j ∧ Q (.int (i * 2 ^ j.toNat)) h) := rfl
theorem v_shr {i j : Int} : shrD (.int i) (.int j) h Q = (0 ≤ j ∧ Q (.int (i / 2 ^ j.toNat)) h) := rfl
theorem v_neg {i : Int} : negD (.int i) h Q = Q (.int (-i)) h := rfl
theorem v_lt {i j : Int} : ltD (.int i) (.int j) h Q = Q (.bool (decide (i < j))) h := rfl
theorem v_le {i j : Int} : leD (.int i) (.int j) h Q = Q (.bool (decide (i ≤ j))) h := rfl
theorem v_gt {i j : Int} : gtD (.int i) (.int j) h Q = Q (.bool (decide (j < i))) h := rfl
theorem v_ge {i j : Int} : geD (.int i) (.int j) h Q = Q (.bool (decide (j ≤ i))) h := rfl
theorem v_eqI {i j : Int} : eqD (.int i) (.int j) h Q = Q (.bool (decide (i = j))) h := by show Q (.bool (PyData.eqv (.int i) (.int j))) h = _; rw [eqv_int]
theorem v_neI {i j : Int} : neD (.int i) (.int j) h Q = Q (.bool (!decide (i = j))) h := by show Q (.bool (!PyData.eqv (.int i) (.int j))) h = _; rw [eqv_int]
theorem v_eqS {i j : Str} : eqD (.str i) (.str j) h Q = Q (.bool (decide (i = j))) h := by show Q (.bool (PyData.eqv (.str i) (.str j))) h = _; rw [eqv_str]
theorem v_neS {i j : Str} : neD (.str i) (.str j) h Q = Q (.bool (!decide (i = j))) h := by show Q (.bool (!PyData.eqv (.str i) (.str j))) h = _; rw [eqv_str]
theorem v_inS {a z : Str} : inD (.str a) (.str z) h Q = Q (.bool (inS a z)) h := rfl
theorem v_ninS {a z : Str} : ninD (.str a) (.str z) h Q = Q (.bool (!inS a z)) h := rfl
theorem v_inT {x : D1} {ds : List D1} : inD x (.tup ds) h Q = inSeq x h (fun b => Q (.bool b) h) (some ds) := by cases x <;> rfl
theorem v_ninT {x : D1} {ds : List D1} : ninD x (.tup ds) h Q = inSeq x h (fun b => Q (.bool (!b)) h) (some ds) := by cases x <;> rfl
theorem v_inR {x : D1} {a : Addr} : inD x (.ref a) h Q = inSeq x h (fun b => Q (.bool b) h) (seqO (h a)) := by cases x <;> rfl
theorem v_ninR {x : D1} {a : Addr} : ninD x (.ref a) h Q = inSeq x h (fun b => Q (.bool (!b)) h) (seqO (h a)) := by cases x <;> rfl
theorem v_inSeq {x : D1} {ds : List D1} {k : Bool → Prop} : inSeq x h k (some ds) = (flatD x = true ∧ ds.all flatD = true ∧ k (ds.any fun z => eqF z x)) := rfl
theorem v_seqO {ds : List D1} : seqO (some (.lst ds)) = some ds := rfl
theorem v_seqR {a : Addr} : seqOf h (.ref a) = seqO (h a) := rfl
theorem v_seqT {ds : List D1} : seqOf h (.tup ds) = some ds := rfl
theorem v_seqL {ds : List D1} : seqOf h (.rol ds) = some ds := rfl
def atK (o : Option D1) (h : MH) (Q : KD) : Prop := match o with | some d => Q d h | none => False
theorem v_ixR {a : Addr} {i : Int} : ixD (.ref a) (.int i) h Q = atD h i Q (seqO (h a)) := rfl
theorem v_ixT {ds : List D1} {i : Int} : ixD (.tup ds) (.int i) h Q = atD h i Q (some ds) := rfl
theorem v_ixL {ds : List D1} {i : Int} : ixD (.rol ds) (.int i) h Q = atD h i Q (some ds) := rfl
theorem v_ixS {z : Str} {i : Int} : ixD (.str z) (.int i) h Q = atS z i h Q := rfl
theorem v_at {ds : List D1} {i : Int} : atD h i Q (some ds) = atK (atI ds i) h Q := rfl
theorem v_atK {d : D1} : atK (some d) h Q = Q d h := rfl
def atSK (o : Option Nat) (h : MH) (Q : KD) : Prop := match o with | some c => Q (.str ⟨#[c]⟩) h | none => False
theorem v_atS {z : Str} {i : Int} : atS z i h Q = atSK (atI z.cps.toList i) h Q := rfl
theorem v_atSK {c : Nat} : atSK (some c) h Q = Q (.str ⟨#[c]⟩) h := rfl
def getK (i : Int) (o : Option D1) (h : MH) (Q : KD) : Prop := match o with | some d => 0 ≤ i ∧ Q d h | none => False
theorem v_get {a : Addr} {i : Int} : getD1 (.ref a) (.int i) h Q = getL i h Q (h a) := rfl
theorem v_getL {xs : List D1} {i : Int} : getL i h Q (some (.lst xs)) = getK i (atI xs i) h Q := rfl
theorem v_getK {i : Int} {d : D1} : getK i (some d) h Q = (0 ≤ i ∧ Q d h) := rfl
def setK (p : Addr) (d : D1) (xs : List D1) (o : Option Nat) (h : MH) (n : MH → Prop) : Prop := match o with | some j => n (up h p (.lst (xs.set j d))) | none => False
theorem v_set {a : Addr} {i : Int} {d : D1} {n : MH → Prop} : setD (.ref a) (.int i) d h n = setL a i d h n (h a) := rfl
theorem v_setL {a : Addr} {i : Int} {d : D1} {xs : List D1} {n : MH → Prop} : setL a i d h n (some (.lst xs)) = setK a d xs (ixN xs.length i) h n := rfl
theorem v_setK {a : Addr} {j : Nat} {d : D1} {xs : List D1} {n : MH → Prop} : setK a d xs (some j) h n = n (up h a (.lst (xs.set j d))) := rfl
theorem v_on1 {r : D1 → MH → KD → Prop} {d : D1} : on1 r [d] h Q = r d h Q := rfl
theorem v_on2 {r : R1} {d e : D1} : on2 r [d, e] h Q = r d e h Q := rfl
theorem v_lenR {a : Addr} : lenD (.ref a) h Q = seqK (fun ds => Q (.int ds.length) h) (seqO (h a)) := rfl
theorem v_lenT {ds : List D1} : lenD (.tup ds) h Q = Q (.int ds.length) h := rfl
theorem v_lenL {ds : List D1} : lenD (.rol ds) h Q = Q (.int ds.length) h := rfl
theorem v_lenS {z : Str} : lenD (.str z) h Q = Q (.int z.length) h := rfl
theorem v_seqK {k : List D1 → Prop} {ds : List D1} : seqK k (some ds) = k ds := rfl
theorem v_tuple {d : D1} : tupleD d h Q = seqK (fun ds => Q (.tup ds) h) (seqOf h d) := rfl
theorem v_list {d : D1} : listD d h Q = seqK (fun ds => ∀ p, h p = none → Q (.ref p) (up h p (.lst ds))) (seqOf h d) := rfl
theorem v_abs {i : Int} : absD (.int i) h Q = Q (.int (if i < 0 then -i else i)) h := rfl
theorem v_intI {i : Int} : intD (.int i) h Q = Q (.int i) h := rfl
theorem v_intB {b : Bool} : intD (.bool b) h Q = Q (.int (if b = true then 1 else 0)) h := rfl
theorem v_okL {a : Addr} : okL (.ref a) h = isLst (h a) := rfl
theorem v_isLst {xs : List D1} : isLst (some (.lst xs)) = True := rfl
theorem v_app {a : Addr} {d : D1} : appendD (.ref a) [d] h Q = lstK (fun xs => xs.length < sizeLine ∧ Q .none (up h a (.lst (xs ++ [d])))) (h a) := rfl
theorem v_lstK {k : List D1 → Prop} {xs : List D1} : lstK k (some (.lst xs)) = k xs := rfl
theorem v_slS {z : Str} {lo hi : Option Int} : slD (.str z) lo hi h Q = Q (.str (cutS z lo hi)) h := rfl
theorem v_slT {ds : List D1} {lo hi : Option Int} : slD (.tup ds) lo hi h Q = Q (.tup (cutD ds lo hi)) h := rfl
theorem v_join {a : Str} {d : D1} : joinD (.str a) d h Q = seqK (joinK a h Q) (seqOf h d) := rfl
theorem v_is {d : D1} : isD d .none h Q = Q (.bool (isNone d)) h := rfl
theorem v_isnot {d : D1} : nisD d .none h Q = Q (.bool (!isNone d)) h := rfl
theorem v_max {i j : Int} : max2D (.int i) (.int j) h Q = Q (.int (if j > i then j else i)) h := rfl
theorem v_min {i j : Int} : min2D (.int i) (.int j) h Q = Q (.int (if j < i then j else i)) h := rfl
theorem v_iSeq {t : E1} {R : List D1 → (MH → Prop) → MH → Prop} : iSeq t σ h R = t σ h fun d h1 => srcD d h1 R := rfl
theorem v_srcT {xs : List D1} {R : List D1 → (MH → Prop) → MH → Prop} : srcD (.tup xs) h R = R xs (fun _ => True) h := rfl
theorem v_srcL {xs : List D1} {R : List D1 → (MH → Prop) → MH → Prop} : srcD (.rol xs) h R = R xs (fun _ => True) h := rfl
theorem v_srcS {z : Str} {R : List D1 → (MH → Prop) → MH → Prop} : srcD (.str z) h R = R (signs z) (fun _ => True) h := rfl
theorem v_srcR {a : Addr} {R : List D1 → (MH → Prop) → MH → Prop} : srcD (.ref a) h R = srcO a h R (h a) := rfl
theorem v_srcO {a : Addr} {xs : List D1} {R : List D1 → (MH → Prop) → MH → Prop} : srcO a h R (some (.lst xs)) = R xs (stabO a xs) h := rfl
theorem v_iRg1 {t : A1} {R : List D1 → (MH → Prop) → MH → Prop} : iRg1 t σ h R = t σ h fun ds h1 => rg1 ds h1 R := rfl
theorem v_rg1 {j : Int} {R : List D1 → (MH → Prop) → MH → Prop} : rg1 [.int j] h R = ((-(2 ^ 62) ≤ j ∧ j < 2 ^ 62) ∧ R (rgD 0 j.toNat) (fun _ => True) h) := rfl
theorem v_truN {QB : Bool → MH → Prop} : truD .none h QB = QB false h := rfl
theorem v_truB {b : Bool} {QB : Bool → MH → Prop} : truD (.bool b) h QB = QB b h := rfl
theorem v_truI {i : Int} {QB : Bool → MH → Prop} : truD (.int i) h QB = QB (i != 0) h := rfl
theorem v_truS {z : Str} {QB : Bool → MH → Prop} : truD (.str z) h QB = QB (z.length != 0) h := rfl
theorem v_truR {a : Addr} {QB : Bool → MH → Prop} : truD (.ref a) h QB = truL h QB (seqO (h a)) := rfl
theorem v_truT {ds : List D1} {QB : Bool → MH → Prop} : truD (.tup ds) h QB = truL h QB (some ds) := rfl
theorem v_truRol {ds : List D1} {QB : Bool → MH → Prop} : truD (.rol ds) h QB = truL h QB (some ds) := rfl
theorem v_truL {ds : List D1} {QB : Bool → MH → Prop} : truL h QB (some ds) = QB (!ds.isEmpty) h := rfl
theorem v_isi {x : D1} {n : String} : isiD x (.ty n) h Q = isiK n (fun b => Q (.bool b) h) (tyN h x) := rfl
theorem v_all {p : Addr} {ds : List D1} {bs : List Bool} (e : h p = some (.lst ds)) (f : blsOf ds = some bs) (q : Q (.bool (bs.all id)) h) : allD (.ref p) h Q := by
  unfold allD blsK
  show seqK _ (seqO (h p))
  rw [e]
  exact ⟨bs, f, q⟩
theorem v_any {p : Addr} {ds : List D1} {bs : List Bool} (e : h p = some (.lst ds)) (f : blsOf ds = some bs) (q : Q (.bool (bs.any id)) h) : anyD (.ref p) h Q := by
  unfold anyD blsK
  show seqK _ (seqO (h p))
  rw [e]
  exact ⟨bs, f, q⟩
end
end DL
namespace DL
open PySem PySem.Spec PyProof.Rows L2
/-! ### the state of the draws -/
/-- the five places of a draw's list: the cells' list at c, a place that is no number below 0, two numbers and a 3 -/
def DrO (c : Addr) (o : MO) : Prop := ∃ p acc r : Int, 0 ≤ p ∧ o = .lst [.ref c, .int p, .int acc, .int r, .int 3]
structure Dr (a c : Addr) (cs : List Int) (h : MH) : Prop where
  st : ∃ o, h a = some o ∧ DrO c o
  ce : h c = some (.lst (cs.map D.int))
theorem Dr.ne {a c : Addr} {cs : List Int} {h : MH} (d : Dr a c cs h) : c ≠ a := by
  obtain ⟨o, e, p, acc, r, _, rfl⟩ := d.st
  intro z
  have f := d.ce
  rw [z, e] at f
  cases cs with
  | nil => cases f
  | cons x xs => cases f
theorem Dr.up {a c : Addr} {cs : List Int} {h : MH} (d : Dr a c cs h) {o : MO} (k : DrO c o) : Dr a c cs (up h a o) :=
  ⟨⟨o, up_same, k⟩, by rw [up_ne d.ne]; exact d.ce⟩
theorem Dr.new {a c : Addr} {cs : List Int} {h : MH} (d : Dr a c cs h) {l : Addr} (n : h l = none) {o : MO} : Dr a c cs (DL.up h l o) := by
  obtain ⟨u, e, k⟩ := d.st
  exact ⟨⟨u, by rw [up_ne (fun z => by rw [← z, e] at n; cases n)]; exact e, k⟩, by rw [up_ne (fun z => by rw [← z, d.ce] at n; cases n)]; exact d.ce⟩
theorem Dr.put {a c : Addr} {cs : List Int} {h : MH} (d : Dr a c cs h) {l : Addr} (n1 : a ≠ l) (n2 : c ≠ l) {o : MO} : Dr a c cs (DL.up h l o) := by
  obtain ⟨u, e, k⟩ := d.st
  exact ⟨⟨u, by rw [up_ne n1]; exact e, k⟩, by rw [up_ne n2]; exact d.ce⟩
def sp__law_draw : P1 := fun ds h Q => ∃ a c cs many, ds = [.ref a, .int many] ∧ 0 < many ∧ many < 2 ^ 64 ∧ Dr a c cs h ∧ ∀ r o, 0 ≤ r → r < many → DrO c o → Q (.int r) (up h a o)
def sp__law_begin : P1 := fun ds h Q => ∃ cs : List Int, ds = [.rol (cs.map D.int)] ∧ cs.length ≤ 63 ∧ ∀ a c o, h a = none → h c = none → a ≠ c → DrO c o → Q (.ref a) (up (up h c (.lst (cs.map D.int))) a o)
theorem divOk_of {j : Int} (h : 0 < j) (h2 : j < 2 ^ 64) : divOk j := by
  exact wide_div (i := 0) (b := 64) h (by omega) (by decide) (by decide)
theorem up_id {h : MH} {a : Addr} {o : MO} (e : h a = some o) : up h a o = h := by
  funext b; unfold up; split
  · rename_i z; rw [z, e]
  · rfl
/-- a row of draws -/
theorem lcT_draws {h : MH} {a c : Addr} {cs : List Int} (d : Dr a c cs h) (P : D → Prop) {xs : List D} {g : G1} {te : E1} {vs : List Nat} {σ : Sl} {Q : KD} (hz : xs.length ≤ sizeLine)
    (he : ∀ (i : Nat) (x : D) (o : MO) (Q' : KD), xs[i]? = some x → DrO c o → (∀ y o', P y → DrO c o' → Q' y (up h a o')) → g x (wipeD σ vs) (up h a o) fun σ2 h2 => te σ2 h2 Q')
    (fin : ∀ (acc : List D) (o : MO) (p : Addr), acc.length = xs.length → (∀ y ∈ acc, P y) → DrO c o → up h a o p = none → Q (.ref p) (up (up h a o) p (.lst acc))) : lcT xs (fun _ => True) g dYes te vs σ Q h := by
  obtain ⟨o0, e0, k0⟩ := d.st
  refine ⟨hz, fun i acc hh => ∃ o, hh = up h a o ∧ DrO c o ∧ acc.length = i ∧ ∀ y ∈ acc, P y, ⟨h, le.refl, o0, (up_id e0).symm, k0, rfl, by simp⟩, fun _ _ _ _ => trivial, ?_, ?_⟩
  · rintro i x acc hh hx ⟨o, rfl, k, hl, hP⟩
    refine he i x o (fun y h4 => ∃ h5, le h5 h4 ∧ ∃ o, h5 = up h a o ∧ DrO c o ∧ (acc ++ [y]).length = i + 1 ∧ ∀ z ∈ acc ++ [y], P z) hx k fun y o' hy k' => ⟨_, le.refl, o', rfl, k', by rw [List.length_append, hl]; rfl, fun z hz => ?_⟩
    rcases List.mem_append.mp hz with hz | hz
    · exact hP z hz
    · rw [List.mem_singleton.mp hz]; exact hy
  · rintro acc hh ⟨o, rfl, k, hl, hP⟩ p np
    exact fin acc o p hl hP k np
/-! ### pick -/
def rowOf (h : MH) : D → Option (List D)
  | .str z => some (signs z)
  | .tup ds => some ds
  | .rol ds => some ds
  | .ref l => seqO (h l)
  | _ => none
theorem signs_len (z : Str) : (signs z).length = z.length := by unfold signs; rw [List.length_map]; exact Array.length_toList
theorem len_row {h : MH} {row : D} {xs : List D} {Q : KD} (e : rowOf h row = some xs) (q : Q (.int xs.length) h) : lenD row h Q := by
  cases row <;> try (cases e; done)
  case str z => cases e; rw [signs_len] at q; exact q
  case tup ds => cases e; exact q
  case rol ds => cases e; exact q
  case ref l =>
    have e : seqO (h l) = some xs := e
    rw [v_lenR, e]; exact q
theorem ix_row {h : MH} {row : D} {xs : List D} {Q : KD} {k : Nat} {x : D} (e : rowOf h row = some xs) (hx : xs[k]? = some x) (q : Q x h) : ixD row (.int k) h Q := by
  cases row <;> try (cases e; done)
  case str z =>
    cases e
    unfold signs at hx
    rw [List.getElem?_map] at hx
    obtain ⟨c, hc, rfl⟩ := Option.map_eq_some_iff.mp hx
    rw [v_ixS, v_atS, atI_of rfl hc]; exact q
  case tup ds => cases e; rw [v_ixT, v_at, atI_of rfl hx]; exact q
  case rol ds => cases e; rw [v_ixL, v_at, atI_of rfl hx]; exact q
  case ref l =>
    have e : seqO (h l) = some xs := e
    rw [v_ixR, e, v_at, atI_of rfl hx]; exact q
def sp__law_pick : P1 := fun ds h Q => ∃ a c cs row xs, ds = [.ref a, row] ∧ Dr a c cs h ∧ rowOf h row = some xs ∧ row ≠ .ref a ∧ xs ≠ [] ∧ xs.length < 2 ^ 64 ∧ ∀ x o, x ∈ xs → DrO c o → Q x (up h a o)
end DL
namespace DL
open PySem PySem.Spec PyProof.Rows L2
def ck_LETTERS : Str := Str.ofString "abcdefghijklmnopqrstuvwxyzABCDEFGHIJKLMNOPQRSTUVWXYZ0123456789"
/-! tokens_of: 0 text, 1 found, 2 at, 3 end -/
def rd_tokens_of_b2 : S1 :=
  (dAug 3 (dC (.int 1)) iaddD)
def rd_tokens_of_b1_3 : S1 :=
  (dAsg (dVar 3) (gN 2))
def rd_tokens_of_b1_2 : S1 :=
  dSeq (dIfS (dTest (dOp ninD (dOp ixD (dVar 0) (dVar 2)) (dTup (dCons (dC (.str (Str.ofString " "))) (dCons (dC (.str (Str.ofString "\n"))) dNil))))) (dDrop (dBM okL appendD (dVar 1) (dCons (dSl (dVar 0) (dPart (dVar 2)) (dPart (dVar 3))) dNil))) dNext) rd_tokens_of_b1_3
def rd_tokens_of_b1_1 : S1 :=
  dSeq (dIfS (dTest (dOp inD (dOp ixD (dVar 0) (dVar 2)) (dC (.str ck_LETTERS)))) (dWhile (dAndT (dTest (dOp ltD (dVar 3) (dCall (on1 lenD) (dCons (dVar 0) dNil)))) (dTest (dOp inD (dOp ixD (dVar 0) (dVar 3)) (dC (.str ck_LETTERS))))) rd_tokens_of_b2) (dIfS (dTest (dOp eqD (dSl (dVar 0) (dPart (dVar 2)) (dPart (dOp addD (dVar 2) (dC (.int 2))))) (dC (.str (Str.ofString "<="))))) (dAsg (dOp addD (dVar 2) (dC (.int 2))) (gN 3)) dNext)) rd_tokens_of_b1_2
def rd_tokens_of_b1 : S1 :=
  dSeq (dAsg (dOp addD (dVar 2) (dC (.int 1))) (gN 3)) rd_tokens_of_b1_1
def rd_tokens_of_3 : S1 :=
  (dRet (dCall (on1 tupleD) (dCons (dVar 1) dNil)))
def rd_tokens_of_2 : S1 :=
  dSeq (dWhile (dTest (dOp ltD (dVar 2) (dCall (on1 lenD) (dCons (dVar 0) dNil)))) rd_tokens_of_b1) rd_tokens_of_3
def rd_tokens_of_1 : S1 :=
  dSeq (dAsg (dC (.int 0)) (gN 2)) rd_tokens_of_2
def rd_tokens_of : S1 :=
  dSeq (dAsg (dLst dNil) (gN 1)) rd_tokens_of_1
/-! _law_begin: 0 _law_script, 1 _law_cell -/
def rd__law_begin : S1 :=
  (dRet (dLst (dCons (dLc (iSeq (dVar 0)) (gN 1) dYes (dCall (on1 intD) (dCons (dVar 1) dNil)) [1]) (dCons (dC (.int 0)) (dCons (dC (.int 0)) (dCons (dC (.int 7)) (dCons (dC (.int 3)) dNil)))))))
/-! _law_draw: 0 _law_d, 1 _law_many, 2 _law_found, 3 _law_size, 4 _law_cell -/
def rd__law_draw_6 : S1 :=
  (dRet (dOp modD (dCall (on1 intD) (dCons (dOp fdivD (dOp ixD (dVar 0) (dC (.int 3))) (dC (.int 16))) dNil)) (dVar 1)))
def rd__law_draw_5 : S1 :=
  dSeq (dAsg (dOp modD (dCall (on1 intD) (dCons (dOp addD (dOp addD (dOp addD (dOp mulD (dOp ixD (dVar 0) (dC (.int 3))) (dC (.int 48271))) (dOp mulD (dOp modD (dCall (on1 intD) (dCons (dVar 3) dNil)) (dC (.int 2147483629))) (dC (.int 16807)))) (dOp mulD (dOp ixD (dVar 0) (dC (.int 1))) (dC (.int 69621)))) (dC (.int 11))) dNil)) (dC (.int 2147483647))) (gSb (dVar 0) (dC (.int 3)) setD)) rd__law_draw_6
def rd__law_draw_4 : S1 :=
  dSeq (dIfS (dTest (dOp geD (dVar 3) (dOp mulD (dC (.int 2)) (dOp powD (dC (.int 10)) (dC (.int 18)))))) (dSeq (dAsg (dOp modD (dCall (on1 intD) (dCons (dOp fdivD (dVar 3) (dC (.int 2))) dNil)) (dOp shlD (dC (.int 1)) (dC (.int 6000)))) (gN 2))
  (dSeq (dAsg (dOp fdivD (dVar 2) (dVar 1)) (gSb (dVar 0) (dC (.int 2)) setD))
  (dRet (dOp modD (dCall (on1 intD) (dCons (dVar 2) dNil)) (dVar 1))))) dNext) rd__law_draw_5
def rd__law_draw_3 : S1 :=
  dSeq (dAugS (dVar 0) (dC (.int 1)) (dC (.int 1)) iaddD) rd__law_draw_4
def rd__law_draw_2 : S1 :=
  dSeq (dIfS (dTest (dOp ltD (dOp ixD (dVar 0) (dC (.int 1))) (dCall (on1 lenD) (dCons (dOp ixD (dVar 0) (dC (.int 0))) dNil)))) (dSeq (dAsg (dOp ixD (dOp ixD (dVar 0) (dC (.int 0))) (dOp ixD (dVar 0) (dC (.int 1)))) (gN 4))
  (dAsg (dOp addD (dOp mulD (dC (.int 2)) (dCall (on1 absD) (dCons (dVar 4) dNil))) (dCall (on1 intD) (dCons (dOp ltD (dVar 4) (dC (.int 0))) dNil))) (gN 3))) dNext) rd__law_draw_3
def rd__law_draw_1 : S1 :=
  dSeq (dAsg (dC (.int 0)) (gN 3)) rd__law_draw_2
def rd__law_draw : S1 :=
  dSeq (dIfS (dTest (dOp gtD (dOp ixD (dVar 0) (dC (.int 2))) (dC (.int 0)))) (dSeq (dAsg (dOp ixD (dVar 0) (dC (.int 2))) (gN 2))
  (dSeq (dAsg (dOp fdivD (dVar 2) (dVar 1)) (gSb (dVar 0) (dC (.int 2)) setD))
  (dRet (dOp modD (dCall (on1 intD) (dCons (dVar 2) dNil)) (dVar 1))))) dNext) rd__law_draw_1
/-! _law_cut: 0 _law_text, 1 _law_runs, 2 _law_found, 3 _law_last, 4 _law_sign -/
def rd__law_cut_b1_1 : S1 :=
  (dAsg (dVar 4) (gN 3))
def rd__law_cut_b1 : S1 :=
  dSeq (dIfS (dAndT (dTest (dOp inD (dVar 4) (dVar 1))) (dTest (dOp inD (dVar 3) (dVar 1)))) (dAsg (dOp addD (dOp ixD (dVar 2) (dUn negD (dC (.int 1)))) (dVar 4)) (gSb (dVar 2) (dUn negD (dC (.int 1))) setD)) (dIfS (dAndT (dTest (dOp eqD (dVar 4) (dC (.str (Str.ofString "="))))) (dTest (dOp eqD (dVar 3) (dC (.str (Str.ofString "<")))))) (dAsg (dC (.str (Str.ofString "<="))) (gSb (dVar 2) (dUn negD (dC (.int 1))) setD)) (dIfS (dTest (dOp ninD (dVar 4) (dLst (dCons (dC (.str (Str.ofString " "))) (dCons (dC (.str (Str.ofString "\n"))) dNil))))) (dDrop (dBM okL appendD (dVar 2) (dCons (dVar 4) dNil))) dNext))) rd__law_cut_b1_1
def rd__law_cut_4 : S1 :=
  (dRet (dVar 2))
def rd__law_cut_3 : S1 :=
  dSeq (dFor (iSeq (dVar 0)) (gN 4) rd__law_cut_b1) rd__law_cut_4
def rd__law_cut_2 : S1 :=
  dSeq (dAsg (dC (.str (Str.ofString " "))) (gN 3)) rd__law_cut_3
def rd__law_cut_1 : S1 :=
  dSeq (dAsg (dLst dNil) (gN 2)) rd__law_cut_2
def rd__law_cut : S1 :=
  dSeq (dAsg (dC (.str (Str.ofString "abcdefghijklmnopqrstuvwxyzABCDEFGHIJKLMNOPQRSTUVWXYZ0123456789"))) (gN 1)) rd__law_cut_1
/-! _law_pick: 0 _law_d, 1 _law_row -/
def rd__law_pick (sp__law_draw : P1) : S1 :=
  (dRet (dOp ixD (dVar 1) (dCall sp__law_draw (dCons (dVar 0) (dCons (dCall (on1 lenD) (dCons (dVar 1) dNil)) dNil)))))
/-! _law_glued: 0 _law_d, 1 _law_pieces, 2 _law_runs, 3 _law_found, 4 _law_last, 5 _law_piece, 6 _law_gap -/
def rd__law_glued_b1_3 (sp__law_pick : P1) : S1 :=
  (dAsg (dOp ixD (dVar 5) (dUn negD (dC (.int 1)))) (gN 4))
def rd__law_glued_b1_2 (sp__law_pick : P1) : S1 :=
  dSeq (dDrop (dBM okL appendD (dVar 3) (dCons (dOp addD (dVar 6) (dVar 5)) dNil))) (rd__law_glued_b1_3 sp__law_pick)
def rd__law_glued_b1_1 (sp__law_pick : P1) : S1 :=
  dSeq (dIfS (dAndT (dTest (dOp eqD (dVar 6) (dC (.str (Str.ofString ""))))) (dOrT (dAndT (dTest (dOp inD (dVar 4) (dVar 2))) (dTest (dOp inD (dOp ixD (dVar 5) (dC (.int 0))) (dVar 2)))) (dAndT (dTest (dOp eqD (dVar 4) (dC (.str (Str.ofString "<"))))) (dTest (dOp eqD (dOp ixD (dVar 5) (dC (.int 0))) (dC (.str (Str.ofString "=")))))))) (dAsg (dC (.str (Str.ofString " "))) (gN 6)) dNext) (rd__law_glued_b1_2 sp__law_pick)
def rd__law_glued_b1 (sp__law_pick : P1) : S1 :=
  dSeq (dAsg (dCall sp__law_pick (dCons (dVar 0) (dCons (dLst (dCons (dC (.str (Str.ofString ""))) (dCons (dC (.str (Str.ofString ""))) (dCons (dC (.str (Str.ofString " "))) (dCons (dC (.str (Str.ofString "\n"))) (dCons (dC (.str (Str.ofString "  "))) (dCons (dC (.str (Str.ofString " \n\n"))) dNil))))))) dNil))) (gN 6)) (rd__law_glued_b1_1 sp__law_pick)
def rd__law_glued_4 (sp__law_pick : P1) : S1 :=
  (dRet (dOp addD (dJoin (dC (.str (Str.ofString ""))) (dVar 3)) (dCall sp__law_pick (dCons (dVar 0) (dCons (dLst (dCons (dC (.str (Str.ofString ""))) (dCons (dC (.str (Str.ofString " "))) (dCons (dC (.str (Str.ofString "\n"))) dNil)))) dNil)))))
def rd__law_glued_3 (sp__law_pick : P1) : S1 :=
  dSeq (dFor (iSeq (dVar 1)) (gN 5) (rd__law_glued_b1 sp__law_pick)) (rd__law_glued_4 sp__law_pick)
def rd__law_glued_2 (sp__law_pick : P1) : S1 :=
  dSeq (dAsg (dC (.str (Str.ofString " "))) (gN 4)) (rd__law_glued_3 sp__law_pick)
def rd__law_glued_1 (sp__law_pick : P1) : S1 :=
  dSeq (dAsg (dLst (dCons (dCall sp__law_pick (dCons (dVar 0) (dCons (dLst (dCons (dC (.str (Str.ofString ""))) (dCons (dC (.str (Str.ofString ""))) (dCons (dC (.str (Str.ofString " "))) (dCons (dC (.str (Str.ofString "\n"))) dNil))))) dNil))) dNil)) (gN 3)) (rd__law_glued_2 sp__law_pick)
def rd__law_glued (sp__law_pick : P1) : S1 :=
  dSeq (dAsg (dC (.str (Str.ofString "abcdefghijklmnopqrstuvwxyzABCDEFGHIJKLMNOPQRSTUVWXYZ0123456789"))) (gN 2)) (rd__law_glued_1 sp__law_pick)
/-! _law_token: 0 _law_d, 1 _law_way, 2 _law_runs, 3 _law_many, 4 _law_k -/
def rd__law_token_5 (sp__law_draw : P1) (sp__law_pick : P1) : S1 :=
  (dRet (dJoin (dC (.str (Str.ofString ""))) (dLc (iRg1 (dCons (dVar 3) dNil)) (gN 4) dYes (dCall sp__law_pick (dCons (dVar 0) (dCons (dVar 2) dNil))) [4])))
def rd__law_token_4 (sp__law_draw : P1) (sp__law_pick : P1) : S1 :=
  dSeq (dAsg (dIf (dTest (dOp gtD (dCall sp__law_draw (dCons (dVar 0) (dCons (dC (.int 4)) dNil))) (dC (.int 0)))) (dOp addD (dC (.int 1)) (dCall sp__law_draw (dCons (dVar 0) (dCons (dC (.int 3)) dNil)))) (dCall sp__law_pick (dCons (dVar 0) (dCons (dLst (dCons (dC (.int 8)) (dCons (dC (.int 9)) (dCons (dC (.int 30)) dNil)))) dNil)))) (gN 3)) (rd__law_token_5 sp__law_draw sp__law_pick)
def rd__law_token_3 (sp__law_draw : P1) (sp__law_pick : P1) : S1 :=
  dSeq (dAsg (dC (.str (Str.ofString "abcdefghijklmnopqrstuvwxyzABCDEFGHIJKLMNOPQRSTUVWXYZ0123456789"))) (gN 2)) (rd__law_token_4 sp__law_draw sp__law_pick)
def rd__law_token_2 (sp__law_draw : P1) (sp__law_pick : P1) : S1 :=
  dSeq (dIfS (dTest (dOp ltD (dVar 1) (dC (.int 3)))) (dRet (dCall sp__law_pick (dCons (dVar 0) (dCons (dC (.str (Str.ofString "!\"#$&'()*+,-./:;<=>?\x40[\\]^_`{|}~\t<=>"))) dNil)))) dNext) (rd__law_token_3 sp__law_draw sp__law_pick)
def rd__law_token_1 (sp__law_draw : P1) (sp__law_pick : P1) : S1 :=
  dSeq (dIfS (dTest (dOp eqD (dVar 1) (dC (.int 0)))) (dRet (dC (.str (Str.ofString "<=")))) dNext) (rd__law_token_2 sp__law_draw sp__law_pick)
def rd__law_token (sp__law_draw : P1) (sp__law_pick : P1) : S1 :=
  dSeq (dAsg (dCall sp__law_draw (dCons (dVar 0) (dCons (dC (.int 6)) dNil))) (gN 1)) (rd__law_token_1 sp__law_draw sp__law_pick)
/-! law: 0 _law_script, 1 _law_d, 2 _law_pieces, 3 _law_first, 4 _law_second, 5 _law_text, 6 _law_due, 7 _law_told, 8 _law_k, 9 _law_token_here -/
def rd_law_b1_2 (sp__law_begin : P1) (sp__law_draw : P1) (sp__law_token : P1) (sp__law_glued : P1) (sp__law_pick : P1) (sp__law_cut : P1) (sp_tokens_of : P1) : S1 :=
  (dIfS (dTest (dOp neD (dVar 7) (dCall (on1 tupleD) (dCons (dVar 6) dNil)))) (dRet (dC (.bool false))) dNext)
def rd_law_b1_1 (sp__law_begin : P1) (sp__law_draw : P1) (sp__law_token : P1) (sp__law_glued : P1) (sp__law_pick : P1) (sp__law_cut : P1) (sp_tokens_of : P1) : S1 :=
  dSeq (dIfS (dOrT (dNotT (dTru (dCall (on2 isiD) (dCons (dVar 7) (dCons (dC (.ty "tuple")) dNil))))) (dNotT (dTru (dCall (on1 allD) (dCons (dLc (iSeq (dVar 7)) (gN 9) dYes (dCall (on2 isiD) (dCons (dVar 9) (dCons (dC (.ty "str")) dNil))) [9]) dNil))))) (dRet (dC (.bool false))) dNext) (rd_law_b1_2 sp__law_begin sp__law_draw sp__law_token sp__law_glued sp__law_pick sp__law_cut sp_tokens_of)
def rd_law_b1 (sp__law_begin : P1) (sp__law_draw : P1) (sp__law_token : P1) (sp__law_glued : P1) (sp__law_pick : P1) (sp__law_cut : P1) (sp_tokens_of : P1) : S1 :=
  dSeq (dAsg (dCall sp_tokens_of (dCons (dVar 5) dNil)) (gN 7)) (rd_law_b1_1 sp__law_begin sp__law_draw sp__law_token sp__law_glued sp__law_pick sp__law_cut sp_tokens_of)
def rd_law_5 (sp__law_begin : P1) (sp__law_draw : P1) (sp__law_token : P1) (sp__law_glued : P1) (sp__law_pick : P1) (sp__law_cut : P1) (sp_tokens_of : P1) : S1 :=
  (dRet (dC (.bool true)))
def rd_law_4 (sp__law_begin : P1) (sp__law_draw : P1) (sp__law_token : P1) (sp__law_glued : P1) (sp__law_pick : P1) (sp__law_cut : P1) (sp_tokens_of : P1) : S1 :=
  dSeq (dFor (iSeq (dLst (dCons (dTup (dCons (dVar 3) (dCons (dVar 2) dNil))) (dCons (dTup (dCons (dVar 4) (dCons (dCall sp__law_cut (dCons (dVar 4) dNil)) dNil))) (dCons (dTup (dCons (dVar 3) (dCons (dVar 2) dNil))) dNil))))) (gTp 2 (gCn (gN 5) (gCn (gN 6) gNl))) (rd_law_b1 sp__law_begin sp__law_draw sp__law_token sp__law_glued sp__law_pick sp__law_cut sp_tokens_of)) (rd_law_5 sp__law_begin sp__law_draw sp__law_token sp__law_glued sp__law_pick sp__law_cut sp_tokens_of)
def rd_law_3 (sp__law_begin : P1) (sp__law_draw : P1) (sp__law_token : P1) (sp__law_glued : P1) (sp__law_pick : P1) (sp__law_cut : P1) (sp_tokens_of : P1) : S1 :=
  dSeq (dAsg (dJoin (dC (.str (Str.ofString ""))) (dLc (iRg1 (dCons (dCall sp__law_draw (dCons (dVar 1) (dCons (dC (.int 41)) dNil))) dNil)) (gN 8) dYes (dCall sp__law_pick (dCons (dVar 1) (dCons (dC (.str (Str.ofString "aqZ90<=><=>;- \n \n\t[."))) dNil))) [8])) (gN 4)) (rd_law_4 sp__law_begin sp__law_draw sp__law_token sp__law_glued sp__law_pick sp__law_cut sp_tokens_of)
def rd_law_2 (sp__law_begin : P1) (sp__law_draw : P1) (sp__law_token : P1) (sp__law_glued : P1) (sp__law_pick : P1) (sp__law_cut : P1) (sp_tokens_of : P1) : S1 :=
  dSeq (dAsg (dCall sp__law_glued (dCons (dVar 1) (dCons (dVar 2) dNil))) (gN 3)) (rd_law_3 sp__law_begin sp__law_draw sp__law_token sp__law_glued sp__law_pick sp__law_cut sp_tokens_of)
def rd_law_1 (sp__law_begin : P1) (sp__law_draw : P1) (sp__law_token : P1) (sp__law_glued : P1) (sp__law_pick : P1) (sp__law_cut : P1) (sp_tokens_of : P1) : S1 :=
  dSeq (dAsg (dLc (iRg1 (dCons (dIf (dTest (dOp eqD (dCall sp__law_draw (dCons (dVar 1) (dCons (dC (.int 12)) dNil))) (dC (.int 0)))) (dC (.int 60)) (dCall sp__law_draw (dCons (dVar 1) (dCons (dC (.int 8)) dNil)))) dNil)) (gN 8) dYes (dCall sp__law_token (dCons (dVar 1) dNil)) [8]) (gN 2)) (rd_law_2 sp__law_begin sp__law_draw sp__law_token sp__law_glued sp__law_pick sp__law_cut sp_tokens_of)
def rd_law (sp__law_begin : P1) (sp__law_draw : P1) (sp__law_token : P1) (sp__law_glued : P1) (sp__law_pick : P1) (sp__law_cut : P1) (sp_tokens_of : P1) : S1 :=
  dSeq (dAsg (dCall sp__law_begin (dCons (dVar 0) dNil)) (gN 1)) (rd_law_1 sp__law_begin sp__law_draw sp__law_token sp__law_glued sp__law_pick sp__law_cut sp_tokens_of)
end DL
namespace DL
open PySem PySem.Spec PyProof.Rows L2
def topS (i : Nat) : Stmt := PySem.Challenge.pw_leaveledger_k07_tokens.main.body.getD i (.Pass ⟨0, 0, 0, 0⟩)
structure Blt (mg : Str → Option Value) : Prop where
  n_len : mg "len" = none
  n_tuple : mg "tuple" = none
  n_int : mg "int" = none
  n_abs : mg "abs" = none
  n_range : mg "range" = none
  n_isinstance : mg "isinstance" = none
  n_all : mg "all" = none
  n_str : mg "str" = none
  k_LETTERS : ∃ t, mg "LETTERS" = some (.str ck_LETTERS t)
abbrev s_tokens_of : Stmt := topS 4
theorem sc_tokens_of : FnScope ["text", "found", "at", "end"] ["text"] (defScope s_tokens_of) := ⟨rfl, rfl, rfl, by decide +kernel, rfl, by decide +kernel, by decide +kernel⟩
abbrev s__law_begin : Stmt := topS 6
theorem sc__law_begin : FnScope ["_law_script", "_law_cell"] ["_law_script"] (defScope s__law_begin) := ⟨rfl, rfl, rfl, by decide +kernel, rfl, by decide +kernel, by decide +kernel⟩
abbrev s__law_draw : Stmt := topS 7
theorem sc__law_draw : FnScope ["_law_d", "_law_many", "_law_found", "_law_size", "_law_cell"] ["_law_d", "_law_many"] (defScope s__law_draw) := ⟨rfl, rfl, rfl, by decide +kernel, rfl, by decide +kernel, by decide +kernel⟩
abbrev s__law_cut : Stmt := topS 9
theorem sc__law_cut : FnScope ["_law_text", "_law_runs", "_law_found", "_law_last", "_law_sign"] ["_law_text"] (defScope s__law_cut) := ⟨rfl, rfl, rfl, by decide +kernel, rfl, by decide +kernel, by decide +kernel⟩
abbrev s__law_pick : Stmt := topS 8
theorem sc__law_pick : FnScope ["_law_d", "_law_row"] ["_law_d", "_law_row"] (defScope s__law_pick) := ⟨rfl, rfl, rfl, by decide +kernel, rfl, by decide +kernel, by decide +kernel⟩
abbrev s__law_glued : Stmt := topS 10
theorem sc__law_glued : FnScope ["_law_d", "_law_pieces", "_law_runs", "_law_found", "_law_last", "_law_piece", "_law_gap"] ["_law_d", "_law_pieces"] (defScope s__law_glued) := ⟨rfl, rfl, rfl, by decide +kernel, rfl, by decide +kernel, by decide +kernel⟩
abbrev s__law_token : Stmt := topS 11
theorem sc__law_token : FnScope ["_law_d", "_law_way", "_law_runs", "_law_many", "_law_k"] ["_law_d"] (defScope s__law_token) := ⟨rfl, rfl, rfl, by decide +kernel, rfl, by decide +kernel, by decide +kernel⟩
abbrev s_law : Stmt := topS 12
theorem sc_law : FnScope ["_law_script", "_law_d", "_law_pieces", "_law_first", "_law_second", "_law_text", "_law_due", "_law_told", "_law_k", "_law_token_here"] ["_law_script"] (defScope s_law) := ⟨rfl, rfl, rfl, by decide +kernel, rfl, by decide +kernel, by decide +kernel⟩
section
variable {P : Program} {w : World} {K : PySem.W.Frag} {mg : Str → Option Value} {base : Heap}
theorem body_tokens_of (B : Blt mg) (f : Addr) (cdv : Value) (A : Around) (outer : List Env) (s : Shared) (H : Hp) (E : XK) (hr : Room 0 (A.deeper (envOfC "tokens_of" (defScope s_tokens_of) s.heap.objs.size f cdv))) :
    DSs (cxOf CX0 P w K mg base ["text", "found", "at", "end"] "tokens_of" (defScope s_tokens_of) f cdv A outer s H E).nox (defBody s_tokens_of) (rd_tokens_of) := by
  obtain ⟨t_LETTERS, m_LETTERS⟩ := B.k_LETTERS
  have hu := hr.units
  exact (dss_cons (ds_set 1 sc_tokens_of.nd rfl (by first | exact Or.inl rfl | exact Or.inr rfl) (de_lst da_nil))
    (dss_cons (ds_set 2 sc_tokens_of.nd rfl (by first | exact Or.inl rfl | exact Or.inr rfl) de_int)
    (dss_cons (ds_while PassesOwn.never (dt_cmpR od_lt (de_var 2) (de_callB xd_len (by rfl) B.n_len (by decide +kernel) (da_cons (de_var 0) da_nil)) (by rfl)) (dss_cons (ds_set 3 sc_tokens_of.nd rfl (by first | exact Or.inl rfl | exact Or.inr rfl) (de_op od_add (de_var 2) de_int))
    (dss_cons (ds_if (dt_cmpR od_in (de_ix (de_var 0) (de_var 2) (fun _ _ => rfl)) (de_globS (by rfl) m_LETTERS ⟨_, rfl⟩) (by rfl)) (dss_one (ds_while PassesOwn.never (dt_w (dw_and (dt_cmpR od_lt (de_var 3) (de_callB xd_len (by rfl) B.n_len (by decide +kernel) (da_cons (de_var 0) da_nil)) (by rfl)) (dw_and1 (dt_cmpR od_in (de_ix (de_var 0) (de_var 3) (fun _ _ => rfl)) (de_globS (by rfl) m_LETTERS ⟨_, rfl⟩) (by rfl))))) (dss_one (ds_aug 3 sc_tokens_of.nd rfl (by first | exact Or.inl rfl | exact Or.inr rfl) de_int xd_iadd)))) (dss_one (ds_if (dt_cmpR (od_eq hu) (de_slice (de_var 0) (do_some (de_var 2)) (do_some (de_op od_add (de_var 2) de_int))) de_str (by rfl)) (dss_one (ds_set 3 sc_tokens_of.nd rfl (by first | exact Or.inl rfl | exact Or.inr rfl) (de_op od_add (de_var 2) de_int))) dss_nil)))
    (dss_cons (ds_if (dt_cmpR od_notIn (de_ix (de_var 0) (de_var 2) (fun _ _ => rfl)) (de_tup (da_cons de_str (da_cons de_str da_nil))) (by rfl)) (dss_one (ds_expr (de_lm PySem.F.slot_list_append PySem.F.type_list_append xm_append (de_var 1) (da_cons (de_slice (de_var 0) (do_some (de_var 2)) (do_some (de_var 3))) da_nil)))) dss_nil)
    (dss_one (ds_set 2 sc_tokens_of.nd rfl (by first | exact Or.inl rfl | exact Or.inr rfl) (de_var 3)))))))
    (dss_one (ds_ret (de_callTy xd_tuple (by rfl) B.n_tuple (by decide +kernel) (da_cons (de_var 1) da_nil)))))))
theorem good_tokens_of {sp : P1} (T : TopF K mg "tokens_of" "tokens_of" s_tokens_of ["text"]) (B : Blt mg) (len : ∀ ds h Q, sp ds h Q → ds.length = 1) (sat : ∀ ds h Q, sp ds h Q → rd_tokens_of (endN Q) (startD 4 ds) h) : Good P w K mg base 1 "tokens_of" ["text"] sp :=
  good_ok T sc_tokens_of len (body_tokens_of B) sat
theorem body__law_begin (B : Blt mg) (f : Addr) (cdv : Value) (A : Around) (outer : List Env) (s : Shared) (H : Hp) (E : XK) (hr : Room 0 (A.deeper (envOfC "_law_begin" (defScope s__law_begin) s.heap.objs.size f cdv))) :
    DSs (cxOf CX0 P w K mg base ["_law_script", "_law_cell"] "_law_begin" (defScope s__law_begin) f cdv A outer s H E).nox (defBody s__law_begin) (rd__law_begin) := by
  have hu := hr.units
  exact (dss_one (ds_ret (de_lst (da_cons (de_lc (own := [("_law_cell", 1)]) (by rfl) sc__law_begin.nd (di_seq (de_var 0)) (blkOk_by (own := [("_law_cell", 1)]) (N := ["_law_script", "_law_cell"]) (sc := defScope s__law_begin) (by decide +kernel)) (fun _ _ _ _ _ => (dg_name 1 (okAtW (by decide)) sc__law_begin.nd rfl (by first | exact Or.inl rfl | exact Or.inr rfl))) (fun _ _ _ _ _ => dts_nil) (fun _ _ _ _ _ => (de_callTy xd_int (by rfl) B.n_int (by decide +kernel) (da_cons (de_var 1) da_nil)))) (da_cons de_int (da_cons de_int (da_cons de_int (da_cons de_int da_nil))))))))
theorem good__law_begin {sp : P1} (T : TopF K mg "_law_begin" "_law_begin" s__law_begin ["_law_script"]) (B : Blt mg) (len : ∀ ds h Q, sp ds h Q → ds.length = 1) (sat : ∀ ds h Q, sp ds h Q → rd__law_begin (endN Q) (startD 2 ds) h) : Good P w K mg base 1 "_law_begin" ["_law_script"] sp :=
  good_ok T sc__law_begin len (body__law_begin B) sat
theorem body__law_draw (B : Blt mg) (f : Addr) (cdv : Value) (A : Around) (outer : List Env) (s : Shared) (H : Hp) (E : XK) (hr : Room 0 (A.deeper (envOfC "_law_draw" (defScope s__law_draw) s.heap.objs.size f cdv))) :
    DSs (cxOf CX0 P w K mg base ["_law_d", "_law_many", "_law_found", "_law_size", "_law_cell"] "_law_draw" (defScope s__law_draw) f cdv A outer s H E).nox (defBody s__law_draw) (rd__law_draw) := by
  have hu := hr.units
  exact (dss_cons (ds_if (dt_cmpR od_gt (de_ix (de_var 0) de_int (fun _ _ => rfl)) de_int (by rfl)) (dss_cons (ds_set 2 sc__law_draw.nd rfl (by first | exact Or.inl rfl | exact Or.inr rfl) (de_ix (de_var 0) de_int (fun _ _ => rfl)))
    (dss_cons (ds_asg (de_op od_fdiv (de_var 2) (de_var 1)) (dg_sub (de_var 0) de_int))
    (dss_one (ds_ret (de_op od_mod (de_callTy xd_int (by rfl) B.n_int (by decide +kernel) (da_cons (de_var 2) da_nil)) (de_var 1)))))) dss_nil)
    (dss_cons (ds_set 3 sc__law_draw.nd rfl (by first | exact Or.inl rfl | exact Or.inr rfl) de_int)
    (dss_cons (ds_if (dt_cmpR od_lt (de_ix (de_var 0) de_int (fun _ _ => rfl)) (de_callB xd_len (by rfl) B.n_len (by decide +kernel) (da_cons (de_ix (de_var 0) de_int (fun _ _ => rfl)) da_nil)) (by rfl)) (dss_cons (ds_set 4 sc__law_draw.nd rfl (by first | exact Or.inl rfl | exact Or.inr rfl) (de_ix (de_ix (de_var 0) de_int (fun _ _ => rfl)) (de_ix (de_var 0) de_int (fun _ _ => rfl)) (fun _ _ => rfl)))
    (dss_one (ds_set 3 sc__law_draw.nd rfl (by first | exact Or.inl rfl | exact Or.inr rfl) (de_op od_add (de_op od_mul de_int (de_callB xd_abs (by rfl) B.n_abs (by decide +kernel) (da_cons (de_var 4) da_nil))) (de_callTy xd_int (by rfl) B.n_int (by decide +kernel) (da_cons (de_cmpR od_lt (de_var 4) de_int (by rfl)) da_nil)))))) dss_nil)
    (dss_cons (ds_augS (de_var 0) de_int de_int xd_iadd)
    (dss_cons (ds_if (dt_cmpR od_ge (de_var 3) (de_op od_mul de_int (de_op od_pow de_int de_int)) (by rfl)) (dss_cons (ds_set 2 sc__law_draw.nd rfl (by first | exact Or.inl rfl | exact Or.inr rfl) (de_op od_mod (de_callTy xd_int (by rfl) B.n_int (by decide +kernel) (da_cons (de_op od_fdiv (de_var 3) de_int) da_nil)) (de_op od_shl de_int de_int)))
    (dss_cons (ds_asg (de_op od_fdiv (de_var 2) (de_var 1)) (dg_sub (de_var 0) de_int))
    (dss_one (ds_ret (de_op od_mod (de_callTy xd_int (by rfl) B.n_int (by decide +kernel) (da_cons (de_var 2) da_nil)) (de_var 1)))))) dss_nil)
    (dss_cons (ds_asg (de_op od_mod (de_callTy xd_int (by rfl) B.n_int (by decide +kernel) (da_cons (de_op od_add (de_op od_add (de_op od_add (de_op od_mul (de_ix (de_var 0) de_int (fun _ _ => rfl)) de_int) (de_op od_mul (de_op od_mod (de_callTy xd_int (by rfl) B.n_int (by decide +kernel) (da_cons (de_var 3) da_nil)) de_int) de_int)) (de_op od_mul (de_ix (de_var 0) de_int (fun _ _ => rfl)) de_int)) de_int) da_nil)) de_int) (dg_sub (de_var 0) de_int))
    (dss_one (ds_ret (de_op od_mod (de_callTy xd_int (by rfl) B.n_int (by decide +kernel) (da_cons (de_op od_fdiv (de_ix (de_var 0) de_int (fun _ _ => rfl)) de_int) da_nil)) (de_var 1))))))))))
theorem good__law_draw {sp : P1} (T : TopF K mg "_law_draw" "_law_draw" s__law_draw ["_law_d", "_law_many"]) (B : Blt mg) (len : ∀ ds h Q, sp ds h Q → ds.length = 2) (sat : ∀ ds h Q, sp ds h Q → rd__law_draw (endN Q) (startD 5 ds) h) : Good P w K mg base 1 "_law_draw" ["_law_d", "_law_many"] sp :=
  good_ok T sc__law_draw len (body__law_draw B) sat
theorem body__law_cut (B : Blt mg) (f : Addr) (cdv : Value) (A : Around) (outer : List Env) (s : Shared) (H : Hp) (E : XK) (hr : Room 0 (A.deeper (envOfC "_law_cut" (defScope s__law_cut) s.heap.objs.size f cdv))) :
    DSs (cxOf CX0 P w K mg base ["_law_text", "_law_runs", "_law_found", "_law_last", "_law_sign"] "_law_cut" (defScope s__law_cut) f cdv A outer s H E).nox (defBody s__law_cut) (rd__law_cut) := by
  have hu := hr.units
  exact (dss_cons (ds_set 1 sc__law_cut.nd rfl (by first | exact Or.inl rfl | exact Or.inr rfl) de_str)
    (dss_cons (ds_set 2 sc__law_cut.nd rfl (by first | exact Or.inl rfl | exact Or.inr rfl) (de_lst da_nil))
    (dss_cons (ds_set 3 sc__law_cut.nd rfl (by first | exact Or.inl rfl | exact Or.inr rfl) de_str)
    (dss_cons (ds_for PassesOwn.never (by rfl) (di_seq (de_var 0)) (dg_name 4 okAt0 sc__law_cut.nd rfl (by first | exact Or.inl rfl | exact Or.inr rfl)) (dss_cons (ds_if (dt_w (dw_and (dt_cmpR od_in (de_var 4) (de_var 1) (by rfl)) (dw_and1 (dt_cmpR od_in (de_var 3) (de_var 1) (by rfl))))) (dss_one (ds_asg (de_op od_add (de_ix (de_var 2) (de_neg de_int) (fun _ _ => rfl)) (de_var 4)) (dg_sub (de_var 2) (de_neg de_int)))) (dss_one (ds_if (dt_w (dw_and (dt_cmpR (od_eq hu) (de_var 4) de_str (by rfl)) (dw_and1 (dt_cmpR (od_eq hu) (de_var 3) de_str (by rfl))))) (dss_one (ds_asg de_str (dg_sub (de_var 2) (de_neg de_int)))) (dss_one (ds_if (dt_cmpR od_notIn (de_var 4) (de_lst (da_cons de_str (da_cons de_str da_nil))) (by rfl)) (dss_one (ds_expr (de_lm PySem.F.slot_list_append PySem.F.type_list_append xm_append (de_var 2) (da_cons (de_var 4) da_nil)))) dss_nil)))))
    (dss_one (ds_set 3 sc__law_cut.nd rfl (by first | exact Or.inl rfl | exact Or.inr rfl) (de_var 4)))))
    (dss_one (ds_ret (de_var 2)))))))
theorem good__law_cut {sp : P1} (T : TopF K mg "_law_cut" "_law_cut" s__law_cut ["_law_text"]) (B : Blt mg) (len : ∀ ds h Q, sp ds h Q → ds.length = 1) (sat : ∀ ds h Q, sp ds h Q → rd__law_cut (endN Q) (startD 5 ds) h) : Good P w K mg base 1 "_law_cut" ["_law_text"] sp :=
  good_ok T sc__law_cut len (body__law_cut B) sat
theorem body__law_pick {sp__law_draw : P1} (B : Blt mg) (G__law_draw : Good P w K mg base 1 "_law_draw" ["_law_d", "_law_many"] sp__law_draw) (f : Addr) (cdv : Value) (A : Around) (outer : List Env) (s : Shared) (H : Hp) (E : XK) (hr : Room 1 (A.deeper (envOfC "_law_pick" (defScope s__law_pick) s.heap.objs.size f cdv))) :
    DSs (cxOf CX0 P w K mg base ["_law_d", "_law_row"] "_law_pick" (defScope s__law_pick) f cdv A outer s H E).nox (defBody s__law_pick) (rd__law_pick sp__law_draw) := by
  have hu := hr.units
  exact (dss_one (ds_ret (de_ix (de_var 1) (de_callG G__law_draw hr (by decide) (by rfl) (da_cons (de_var 0) (da_cons (de_callB xd_len (by rfl) B.n_len (by decide +kernel) (da_cons (de_var 1) da_nil)) da_nil))) (fun _ _ => rfl))))
theorem good__law_pick {sp : P1} {sp__law_draw : P1} (T : TopF K mg "_law_pick" "_law_pick" s__law_pick ["_law_d", "_law_row"]) (B : Blt mg) (G__law_draw : Good P w K mg base 1 "_law_draw" ["_law_d", "_law_many"] sp__law_draw) (len : ∀ ds h Q, sp ds h Q → ds.length = 2) (sat : ∀ ds h Q, sp ds h Q → rd__law_pick sp__law_draw (endN Q) (startD 2 ds) h) : Good P w K mg base 2 "_law_pick" ["_law_d", "_law_row"] sp :=
  good_ok T sc__law_pick len (body__law_pick B G__law_draw) sat
theorem body__law_glued {sp__law_pick : P1} (B : Blt mg) (G__law_pick : Good P w K mg base 2 "_law_pick" ["_law_d", "_law_row"] sp__law_pick) (f : Addr) (cdv : Value) (A : Around) (outer : List Env) (s : Shared) (H : Hp) (E : XK) (hr : Room 2 (A.deeper (envOfC "_law_glued" (defScope s__law_glued) s.heap.objs.size f cdv))) :
    DSs (cxOf CX0 P w K mg base ["_law_d", "_law_pieces", "_law_runs", "_law_found", "_law_last", "_law_piece", "_law_gap"] "_law_glued" (defScope s__law_glued) f cdv A outer s H E).nox (defBody s__law_glued) (rd__law_glued sp__law_pick) := by
  have hu := hr.units
  exact (dss_cons (ds_set 2 sc__law_glued.nd rfl (by first | exact Or.inl rfl | exact Or.inr rfl) de_str)
    (dss_cons (ds_set 3 sc__law_glued.nd rfl (by first | exact Or.inl rfl | exact Or.inr rfl) (de_lst (da_cons (de_callG G__law_pick hr (by decide) (by rfl) (da_cons (de_var 0) (da_cons (de_lst (da_cons de_str (da_cons de_str (da_cons de_str (da_cons de_str da_nil))))) da_nil))) da_nil)))
    (dss_cons (ds_set 4 sc__law_glued.nd rfl (by first | exact Or.inl rfl | exact Or.inr rfl) de_str)
    (dss_cons (ds_for PassesOwn.never (by rfl) (di_seq (de_var 1)) (dg_name 5 okAt0 sc__law_glued.nd rfl (by first | exact Or.inl rfl | exact Or.inr rfl)) (dss_cons (ds_set 6 sc__law_glued.nd rfl (by first | exact Or.inl rfl | exact Or.inr rfl) (de_callG G__law_pick hr (by decide) (by rfl) (da_cons (de_var 0) (da_cons (de_lst (da_cons de_str (da_cons de_str (da_cons de_str (da_cons de_str (da_cons de_str (da_cons de_str da_nil))))))) da_nil))))
    (dss_cons (ds_if (dt_w (dw_and (dt_cmpR (od_eq hu) (de_var 6) de_str (by rfl)) (dw_and1 (dt_w (dw_or (dt_w (dw_and (dt_cmpR od_in (de_var 4) (de_var 2) (by rfl)) (dw_and1 (dt_cmpR od_in (de_ix (de_var 5) de_int (fun _ _ => rfl)) (de_var 2) (by rfl))))) (dw_or1 (dt_w (dw_and (dt_cmpR (od_eq hu) (de_var 4) de_str (by rfl)) (dw_and1 (dt_cmpR (od_eq hu) (de_ix (de_var 5) de_int (fun _ _ => rfl)) de_str (by rfl))))))))))) (dss_one (ds_set 6 sc__law_glued.nd rfl (by first | exact Or.inl rfl | exact Or.inr rfl) de_str)) dss_nil)
    (dss_cons (ds_expr (de_lm PySem.F.slot_list_append PySem.F.type_list_append xm_append (de_var 3) (da_cons (de_op od_add (de_var 6) (de_var 5)) da_nil)))
    (dss_one (ds_set 4 sc__law_glued.nd rfl (by first | exact Or.inl rfl | exact Or.inr rfl) (de_ix (de_var 5) (de_neg de_int) (fun _ _ => rfl))))))))
    (dss_one (ds_ret (de_op od_add (de_join de_str (de_var 3)) (de_callG G__law_pick hr (by decide) (by rfl) (da_cons (de_var 0) (da_cons (de_lst (da_cons de_str (da_cons de_str (da_cons de_str da_nil)))) da_nil))))))))))
theorem good__law_glued {sp : P1} {sp__law_pick : P1} (T : TopF K mg "_law_glued" "_law_glued" s__law_glued ["_law_d", "_law_pieces"]) (B : Blt mg) (G__law_pick : Good P w K mg base 2 "_law_pick" ["_law_d", "_law_row"] sp__law_pick) (len : ∀ ds h Q, sp ds h Q → ds.length = 2) (sat : ∀ ds h Q, sp ds h Q → rd__law_glued sp__law_pick (endN Q) (startD 7 ds) h) : Good P w K mg base 3 "_law_glued" ["_law_d", "_law_pieces"] sp :=
  good_ok T sc__law_glued len (body__law_glued B G__law_pick) sat
theorem body__law_token {sp__law_draw : P1} {sp__law_pick : P1} (B : Blt mg) (G__law_draw : Good P w K mg base 1 "_law_draw" ["_law_d", "_law_many"] sp__law_draw) (G__law_pick : Good P w K mg base 2 "_law_pick" ["_law_d", "_law_row"] sp__law_pick) (f : Addr) (cdv : Value) (A : Around) (outer : List Env) (s : Shared) (H : Hp) (E : XK) (hr : Room 2 (A.deeper (envOfC "_law_token" (defScope s__law_token) s.heap.objs.size f cdv))) :
    DSs (cxOf CX0 P w K mg base ["_law_d", "_law_way", "_law_runs", "_law_many", "_law_k"] "_law_token" (defScope s__law_token) f cdv A outer s H E).nox (defBody s__law_token) (rd__law_token sp__law_draw sp__law_pick) := by
  have hu := hr.units
  exact (dss_cons (ds_set 1 sc__law_token.nd rfl (by first | exact Or.inl rfl | exact Or.inr rfl) (de_callG G__law_draw hr (by decide) (by rfl) (da_cons (de_var 0) (da_cons de_int da_nil))))
    (dss_cons (ds_if (dt_cmpR (od_eq hu) (de_var 1) de_int (by rfl)) (dss_one (ds_ret de_str)) dss_nil)
    (dss_cons (ds_if (dt_cmpR od_lt (de_var 1) de_int (by rfl)) (dss_one (ds_ret (de_callG G__law_pick hr (by decide) (by rfl) (da_cons (de_var 0) (da_cons de_str da_nil))))) dss_nil)
    (dss_cons (ds_set 2 sc__law_token.nd rfl (by first | exact Or.inl rfl | exact Or.inr rfl) de_str)
    (dss_cons (ds_set 3 sc__law_token.nd rfl (by first | exact Or.inl rfl | exact Or.inr rfl) (de_ifExp (dt_cmpR od_gt (de_callG G__law_draw hr (by decide) (by rfl) (da_cons (de_var 0) (da_cons de_int da_nil))) de_int (by rfl)) (de_op od_add de_int (de_callG G__law_draw hr (by decide) (by rfl) (da_cons (de_var 0) (da_cons de_int da_nil)))) (de_callG G__law_pick hr (by decide) (by rfl) (da_cons (de_var 0) (da_cons (de_lst (da_cons de_int (da_cons de_int (da_cons de_int da_nil)))) da_nil)))))
    (dss_one (ds_ret (de_join de_str (de_lc (own := [("_law_k", 4)]) (by rfl) sc__law_token.nd (di_range1 (by rfl) B.n_range (da_cons (de_var 3) da_nil)) (blkOk_by (own := [("_law_k", 4)]) (N := ["_law_d", "_law_way", "_law_runs", "_law_many", "_law_k"]) (sc := defScope s__law_token) (by decide +kernel)) (fun _ _ _ _ _ => (dg_name 4 (okAtW (by decide)) sc__law_token.nd rfl (by first | exact Or.inl rfl | exact Or.inr rfl))) (fun _ _ _ _ _ => dts_nil) (fun _ _ _ _ _ => (de_callG G__law_pick hr (by decide) (by rfl) (da_cons (de_var 0) (da_cons (de_var 2) da_nil)))))))))))))
theorem good__law_token {sp : P1} {sp__law_draw : P1} {sp__law_pick : P1} (T : TopF K mg "_law_token" "_law_token" s__law_token ["_law_d"]) (B : Blt mg) (G__law_draw : Good P w K mg base 1 "_law_draw" ["_law_d", "_law_many"] sp__law_draw) (G__law_pick : Good P w K mg base 2 "_law_pick" ["_law_d", "_law_row"] sp__law_pick) (len : ∀ ds h Q, sp ds h Q → ds.length = 1) (sat : ∀ ds h Q, sp ds h Q → rd__law_token sp__law_draw sp__law_pick (endN Q) (startD 5 ds) h) : Good P w K mg base 3 "_law_token" ["_law_d"] sp :=
  good_ok T sc__law_token len (body__law_token B G__law_draw G__law_pick) sat
theorem body_law {sp__law_begin : P1} {sp__law_draw : P1} {sp__law_token : P1} {sp__law_glued : P1} {sp__law_pick : P1} {sp__law_cut : P1} {sp_tokens_of : P1} (B : Blt mg) (G__law_begin : Good P w K mg base 1 "_law_begin" ["_law_script"] sp__law_begin) (G__law_draw : Good P w K mg base 1 "_law_draw" ["_law_d", "_law_many"] sp__law_draw) (G__law_token : Good P w K mg base 3 "_law_token" ["_law_d"] sp__law_token) (G__law_glued : Good P w K mg base 3 "_law_glued" ["_law_d", "_law_pieces"] sp__law_glued) (G__law_pick : Good P w K mg base 2 "_law_pick" ["_law_d", "_law_row"] sp__law_pick) (G__law_cut : Good P w K mg base 1 "_law_cut" ["_law_text"] sp__law_cut) (G_tokens_of : Good P w K mg base 1 "tokens_of" ["text"] sp_tokens_of) (f : Addr) (cdv : Value) (A : Around) (outer : List Env) (s : Shared) (H : Hp) (E : XK) (hr : Room 3 (A.deeper (envOfC "law" (defScope s_law) s.heap.objs.size f cdv))) :
    DSs (cxOf CX0 P w K mg base ["_law_script", "_law_d", "_law_pieces", "_law_first", "_law_second", "_law_text", "_law_due", "_law_told", "_law_k", "_law_token_here"] "law" (defScope s_law) f cdv A outer s H E).nox (defBody s_law) (rd_law sp__law_begin sp__law_draw sp__law_token sp__law_glued sp__law_pick sp__law_cut sp_tokens_of) := by
  have hu := hr.units
  exact (dss_cons (ds_set 1 sc_law.nd rfl (by first | exact Or.inl rfl | exact Or.inr rfl) (de_callG G__law_begin hr (by decide) (by rfl) (da_cons (de_var 0) da_nil)))
    (dss_cons (ds_setLc 2 (own := [("_law_k", 8)]) (by rfl) sc_law.nd rfl rfl (sw_true rfl rfl rfl (by decide +kernel)) (di_range1 (by rfl) B.n_range (da_cons (de_ifExp (dt_cmpR (od_eq hu) (de_callG G__law_draw hr (by decide) (by rfl) (da_cons (de_var 1) (da_cons de_int da_nil))) de_int (by rfl)) de_int (de_callG G__law_draw hr (by decide) (by rfl) (da_cons (de_var 1) (da_cons de_int da_nil)))) da_nil)) (blkOk_by (own := [("_law_k", 8)]) (N := ["_law_script", "_law_d", "_law_pieces", "_law_first", "_law_second", "_law_text", "_law_due", "_law_told", "_law_k", "_law_token_here"]) (sc := defScope s_law) (by decide +kernel)) (fun _ _ _ _ _ => (dg_name 8 (okAtW (by decide)) sc_law.nd rfl (by first | exact Or.inl rfl | exact Or.inr rfl))) (fun _ _ _ _ _ => dts_nil) (fun _ _ _ _ _ => (de_callG G__law_token hr (by decide) (by rfl) (da_cons (de_var 1) da_nil))))
    (dss_cons (ds_set 3 sc_law.nd rfl (by first | exact Or.inl rfl | exact Or.inr rfl) (de_callG G__law_glued hr (by decide) (by rfl) (da_cons (de_var 1) (da_cons (de_var 2) da_nil))))
    (dss_cons (ds_set 4 sc_law.nd rfl (by first | exact Or.inl rfl | exact Or.inr rfl) (de_join de_str (de_lc (own := [("_law_k", 8)]) (by rfl) sc_law.nd (di_range1 (by rfl) B.n_range (da_cons (de_callG G__law_draw hr (by decide) (by rfl) (da_cons (de_var 1) (da_cons de_int da_nil))) da_nil)) (blkOk_by (own := [("_law_k", 8)]) (N := ["_law_script", "_law_d", "_law_pieces", "_law_first", "_law_second", "_law_text", "_law_due", "_law_told", "_law_k", "_law_token_here"]) (sc := defScope s_law) (by decide +kernel)) (fun _ _ _ _ _ => (dg_name 8 (okAtW (by decide)) sc_law.nd rfl (by first | exact Or.inl rfl | exact Or.inr rfl))) (fun _ _ _ _ _ => dts_nil) (fun _ _ _ _ _ => (de_callG G__law_pick hr (by decide) (by rfl) (da_cons (de_var 1) (da_cons de_str da_nil)))))))
    (dss_cons (ds_for PassesOwn.never (by rfl) (di_seq (de_lst (da_cons (de_tup (da_cons (de_var 3) (da_cons (de_var 2) da_nil))) (da_cons (de_tup (da_cons (de_var 4) (da_cons (de_callG G__law_cut hr (by decide) (by rfl) (da_cons (de_var 4) da_nil)) da_nil))) (da_cons (de_tup (da_cons (de_var 3) (da_cons (de_var 2) da_nil))) da_nil))))) (dg_tup (by rfl) (dgs_cons (dg_name 5 okAt0 sc_law.nd rfl (by first | exact Or.inl rfl | exact Or.inr rfl)) (dgs_cons (dg_name 6 okAt0 sc_law.nd rfl (by first | exact Or.inl rfl | exact Or.inr rfl)) dgs_nil))) (dss_cons (ds_set 7 sc_law.nd rfl (by first | exact Or.inl rfl | exact Or.inr rfl) (de_callG G_tokens_of hr (by decide) (by rfl) (da_cons (de_var 5) da_nil)))
    (dss_cons (ds_if (dt_w (dw_or (dt_not (dt_tru (de_callB xd_isi (by rfl) B.n_isinstance (by decide +kernel) (da_cons (de_var 7) (da_cons (de_ty (T := "tuple") (by rfl) B.n_tuple (by decide +kernel)) da_nil))))) (dw_or1 (dt_not (dt_tru (de_callB (xd_all rfl) (by rfl) B.n_all (by decide +kernel) (da_cons (de_lc (own := [("_law_token_here", 9)]) (by rfl) sc_law.nd (di_seq (de_var 7)) (blkOk_by (own := [("_law_token_here", 9)]) (N := ["_law_script", "_law_d", "_law_pieces", "_law_first", "_law_second", "_law_text", "_law_due", "_law_told", "_law_k", "_law_token_here"]) (sc := defScope s_law) (by decide +kernel)) (fun _ _ _ _ _ => (dg_name 9 (okAtW (by decide)) sc_law.nd rfl (by first | exact Or.inl rfl | exact Or.inr rfl))) (fun _ _ _ _ _ => dts_nil) (fun _ _ _ _ _ => (de_callB xd_isi (by rfl) B.n_isinstance (by decide +kernel) (da_cons (de_var 9) (da_cons (de_ty (T := "str") (by rfl) B.n_str (by decide +kernel)) da_nil))))) da_nil))))))) (dss_one (ds_ret de_bl)) dss_nil)
    (dss_one (ds_if (dt_cmpR (od_ne hu) (de_var 7) (de_callTy xd_tuple (by rfl) B.n_tuple (by decide +kernel) (da_cons (de_var 6) da_nil)) (by rfl)) (dss_one (ds_ret de_bl)) dss_nil)))))
    (dss_one (ds_ret de_bl)))))))
theorem fn_law {sp : P1} {sp__law_begin : P1} {sp__law_draw : P1} {sp__law_token : P1} {sp__law_glued : P1} {sp__law_pick : P1} {sp__law_cut : P1} {sp_tokens_of : P1} {f : Addr} {fd : FuncData} (F : Fun K "law" "law" s_law f fd) (B : Blt mg) (G__law_begin : Good P w K mg base 1 "_law_begin" ["_law_script"] sp__law_begin) (G__law_draw : Good P w K mg base 1 "_law_draw" ["_law_d", "_law_many"] sp__law_draw) (G__law_token : Good P w K mg base 3 "_law_token" ["_law_d"] sp__law_token) (G__law_glued : Good P w K mg base 3 "_law_glued" ["_law_d", "_law_pieces"] sp__law_glued) (G__law_pick : Good P w K mg base 2 "_law_pick" ["_law_d", "_law_row"] sp__law_pick) (G__law_cut : Good P w K mg base 1 "_law_cut" ["_law_text"] sp__law_cut) (G_tokens_of : Good P w K mg base 1 "tokens_of" ["text"] sp_tokens_of) (len : ∀ ds h Q, sp ds h Q → ds.length = 1) (sat : ∀ ds h Q, sp ds h Q → rd_law sp__law_begin sp__law_draw sp__law_token sp__law_glued sp__law_pick sp__law_cut sp_tokens_of (endN Q) (startD 10 ds) h) : FnOk P w K mg base CX0 4 f fd ["_law_script"] (lowP K sp) :=
  df_ok F sc_law len fun cdv A outer s H E hr => ⟨_, body_law B G__law_begin G__law_draw G__law_token G__law_glued G__law_pick G__law_cut G_tokens_of f cdv A outer s H E hr, sat⟩
end
end DL
namespace DL
open PySem PySem.Spec PyProof.Rows L2
local macro_rules | `(tactic| walk_at "ev") => `(tactic| try simp only [e_seq, e_next, e_brk, e_cnt, e_drop, e_ret, e_retN, e_ifS, e_asg, e_gN, e_gSb, e_gTp, e_gCn, e_gNl, e_var, e_varK, e_nth0, e_nthS, e_put0, e_putS, e_c, e_op, e_un, e_call, e_nil, e_cons, e_tup, e_lst, e_test, e_asB, e_tru, e_andT, e_orT, e_notT, e_andV, e_orV, e_notV, e_if, e_aug, e_augS, e_sl, e_part, e_partK, e_noPart, e_bm0, e_bm, e_join, e_yes, e_wipe0, e_wipeS, e_lc, e_for, v_add, v_addS, v_addT, v_iadd, v_sub, v_mul, v_fdiv, v_mod, v_pow, v_shl, v_shr, v_neg, v_lt, v_le, v_gt, v_ge, v_eqI, v_neI, v_eqS, v_neS, v_inS, v_ninS, v_inT, v_ninT, v_inR, v_ninR, v_inSeq, v_seqO, v_seqR, v_seqT, v_seqL, v_ixR, v_ixT, v_ixL, v_ixS, v_at, v_atK, v_atS, v_atSK, v_get, v_getL, v_getK, v_set, v_setL, v_setK, v_on1, v_on2, v_lenR, v_lenT, v_lenL, v_lenS, v_seqK, v_tuple, v_list, v_abs, v_intI, v_intB, v_okL, v_isLst, v_app, v_lstK, v_slS, v_slT, v_join, v_is, v_isnot, v_max, v_min, v_iSeq, v_srcT, v_srcL, v_srcS, v_srcR, v_srcO, v_iRg1, v_rg1, v_truN, v_truB, v_truI, v_truS, v_truR, v_truT, v_truRol, v_truL])
theorem ixN5_1 : ixN 5 1 = some 1 := by decide
theorem ixN5_2 : ixN 5 2 = some 2 := by decide
theorem ixN5_3 : ixN 5 3 = some 3 := by decide
theorem divOk_2 : divOk 2 := divOk_of (by decide) (by decide)
theorem divOk_16 : divOk 16 := divOk_of (by decide) (by decide)
theorem CPow_a : CPow 10 18 := by unfold CPow; decide
theorem CPow_b : CPow 1 6000 := by unfold CPow; decide
theorem pow6000 : (0:Int) < 1 * 2 ^ Int.toNat 6000 := by rw [Int.one_mul]; exact Int.pow_pos (by decide)
theorem len__law_draw : ∀ ds h Q, sp__law_draw ds h Q → ds.length = 2 := fun ds h Q ⟨a, c, cs, many, e, _⟩ => by rw [e]; rfl
theorem mulOk_l {i j : Int} (h : -(2 ^ 64) < i ∧ i < 2 ^ 64) : mulOk i j := .inl h
theorem mulOk_r {i j : Int} (h : -(2 ^ 64) < j ∧ j < 2 ^ 64) : mulOk i j := .inr h
section
variable {Q : KD} {h0 : MH} {a c : Addr} {cs : List Int} {many : Int}
/-- what the draw's end wants -/
def DrFin (Q : KD) (h0 : MH) (a c : Addr) (many : Int) : Prop := ∀ (x p acc r : Int), 0 ≤ p → Lh Q (.int (x % many)) (up h0 a (.lst [.ref c, .int p, .int acc, .int r, .int 3]))
theorem draw_5 (hm : 0 < many) (q : DrFin Q h0 a c many) {x y : Option D} {size p acc r : Int} (hp : 0 ≤ p) : rd__law_draw_5 (endN Q) [some (.ref a), some (.int many), x, some (.int size), y] (up h0 a (.lst [.ref c, .int p, .int acc, .int r, .int 3])) := by
  unfold rd__law_draw_5 rd__law_draw_6
  walk_at "ev"
  simp only [up_same, up_up, v_seqO, v_at, atI_1, atI_3, v_atK, v_mul, v_add, v_mod, v_intI, v_setL, List.length_cons, List.length_nil, Nat.reduceAdd, ixN5_3, v_setK, List.set_cons_succ, List.set_cons_zero, v_fdiv]
  refine ⟨mulOk_r (by decide), by decide, mulOk_r (by decide), mulOk_r (by decide), by decide, divOk_16, hm, q _ _ _ _ hp⟩
theorem draw_4 (hm : 0 < many) (hm2 : many < 2 ^ 64) (q : DrFin Q h0 a c many) {x y : Option D} {size p acc r : Int} (hp : 0 ≤ p) : rd__law_draw_4 (endN Q) [some (.ref a), some (.int many), x, some (.int size), y] (up h0 a (.lst [.ref c, .int p, .int acc, .int r, .int 3])) := by
  unfold rd__law_draw_4
  walk_at "ev"
  refine ⟨CPow_a, mulOk_l (by decide), ?_⟩
  split
  · refine ⟨divOk_2, CPow_b, pow6000, divOk_of hm hm2, ?_⟩
    simp only [up_same, up_up, v_seqO, v_setL, List.length_cons, List.length_nil, Nat.reduceAdd, ixN5_2, v_setK, List.set_cons_succ, List.set_cons_zero]
    exact ⟨hm, q _ _ _ _ hp⟩
  · exact draw_5 hm q hp
theorem draw_3 (hm : 0 < many) (hm2 : many < 2 ^ 64) (q : DrFin Q h0 a c many) {x y : Option D} {size p acc r : Int} (hp : 0 ≤ p) (ha : h0 a = some (.lst [.ref c, .int p, .int acc, .int r, .int 3])) : rd__law_draw_3 (endN Q) [some (.ref a), some (.int many), x, some (.int size), y] h0 := by
  unfold rd__law_draw_3
  walk_at "ev"
  simp only [ha, v_getL, atI_1, v_getK, v_iadd, v_setL, List.length_cons, List.length_nil, Nat.reduceAdd, ixN5_1, v_setK, List.set_cons_succ, List.set_cons_zero]
  exact ⟨by decide, draw_4 hm hm2 q (by omega)⟩
end
theorem sat__law_draw : ∀ ds h Q, sp__law_draw ds h Q → rd__law_draw (endN Q) (startD 5 ds) h := by
  rintro ds h Q ⟨a, c, cs, many, rfl, hm, hm2, d, q⟩
  obtain ⟨⟨o, ha, p, acc, r, hp, rfl⟩, hc⟩ := id d
  have dv := divOk_of hm hm2
  have fin : DrFin Q h a c many := fun x p' acc' r' hp' =>
    lh_of (q _ _ (Int.emod_nonneg _ (by omega)) (Int.emod_lt_of_pos _ hm) ⟨p', acc', r', hp', rfl⟩)
  show rd__law_draw (endN Q) [some (.ref a), some (.int many), none, none, none] h
  unfold rd__law_draw
  walk_at "ev"
  simp only [ha, atI_2, v_seqO, v_at, v_atK, v_gt, e_asB, decide_eq_true_eq]
  split
  · walk_at "ev"
    simp only [ha, v_setL, List.length_cons, List.length_nil, Nat.reduceAdd, ixN5_2, v_setK, List.set_cons_succ, List.set_cons_zero, dv, hm, true_and]
    exact fin _ _ _ _ hp
  · unfold rd__law_draw_1 rd__law_draw_2
    walk_at "ev"
    simp only [ha, hc, atI_z, atI_1, v_seqO, v_at, v_atK, v_lenR, v_seqK, v_lt, e_asB, decide_eq_true_eq, List.length_map]
    split
    · rename_i hlt
      obtain ⟨j, rfl⟩ := Int.eq_ofNat_of_zero_le hp
      have hj : j < cs.length := by omega
      simp only [ha, hc, atI_z, atI_1, v_seqO, v_at, v_atK, v_ixR, atI_of rfl (show (cs.map D.int)[j]? = some (.int cs[j]) by rw [List.getElem?_map, List.getElem?_eq_getElem hj]; rfl), v_abs, v_mul, v_lt, v_intB, v_add]
      exact ⟨mulOk_l (by decide), draw_3 hm hm2 fin hp ha⟩
    · exact draw_3 hm hm2 fin hp ha
end DL
namespace K07
/-! ### tokens, in plain lists of codes -/
variable (L : Nat → Bool)
inductive Mode where | n | run (w : List Nat) | lt
def blank (c : Nat) : Bool := c == 32 || c == 10
/-- a sign that begins something -/
def tok : Mode → List Nat → List (List Nat)
  | .n, [] => []
  | .run w, [] => [w]
  | .lt, [] => [[60]]
  | .n, c :: r => if L c then tok (.run [c]) r else if c = 60 then tok .lt r else if blank c then tok .n r else [c] :: tok .n r
  | .run w, c :: r => if L c then tok (.run (w ++ [c])) r else w :: (if c = 60 then tok .lt r else if blank c then tok .n r else [c] :: tok .n r)
  | .lt, c :: r => if c = 61 then [60, 61] :: tok .n r else [60] :: (if L c then tok (.run [c]) r else if c = 60 then tok .lt r else if blank c then tok .n r else [c] :: tok .n r)
theorem tok_run : ∀ (l w : List Nat), tok L (.run w) l = (w ++ l.takeWhile L) :: tok L .n (l.dropWhile L)
  | [], w => by simp [tok]
  | c :: r, w => by
    by_cases h : L c = true
    · rw [tok, if_pos h, tok_run r, List.takeWhile_cons_of_pos h, List.dropWhile_cons_of_pos h, List.append_assoc]; rfl
    · rw [tok, if_neg h, List.takeWhile_cons_of_neg h, List.dropWhile_cons_of_neg h, List.append_nil, tok, if_neg h]
theorem tok_lt_eq (r : List Nat) : tok L .lt (61 :: r) = [60, 61] :: tok L .n r := by rw [tok, if_pos rfl]
theorem tok_lt_ne {l : List Nat} (h : l.head? ≠ some 61) : tok L .lt l = [60] :: tok L .n l := by
  cases l with
  | nil => simp [tok]
  | cons c r =>
    have hc : c ≠ 61 := fun e => h (by rw [e]; rfl)
    have e1 : tok L .lt (c :: r) = [60] :: (if L c then tok L (.run [c]) r else if c = 60 then tok L .lt r else if blank c then tok L .n r else [c] :: tok L .n r) := by
      simp only [tok, if_neg hc]
    rw [e1, tok]
theorem tok_L {c : Nat} {r : List Nat} (h : L c = true) : tok L .n (c :: r) = (c :: r.takeWhile L) :: tok L .n (r.dropWhile L) := by
  rw [tok, if_pos h, tok_run]; rfl
theorem tok_other {c : Nat} {r : List Nat} (h : L c = false) (h2 : c ≠ 60) : tok L .n (c :: r) = if blank c then tok L .n r else [c] :: tok L .n r := by
  rw [tok, if_neg (by rw [h]; exact Bool.false_ne_true), if_neg h2]
theorem tok_blank {c : Nat} {r : List Nat} (hL : L c = false) (h : blank c = true) : tok L .n (c :: r) = tok L .n r := by
  rw [tok_other L hL (by intro e; subst e; exact absurd h (by decide)), if_pos h]
theorem tok_blanks {g r : List Nat} (h : ∀ c ∈ g, blank c = true ∧ L c = false) : tok L .n (g ++ r) = tok L .n r := by
  induction g with
  | nil => rfl
  | cons c g ih =>
    rw [List.cons_append, tok_blank L (h c (by simp)).2 (h c (by simp)).1, ih fun d hd => h d (by simp [hd])]
/-- a token by itself -/
inductive IsTok : List Nat → Prop where
  | run (c : Nat) (r : List Nat) (h : ∀ d ∈ c :: r, L d = true) : IsTok (c :: r)
  | le : IsTok [60, 61]
  | one (c : Nat) (h : L c = false) (hb : blank c = false) : IsTok [c]
/-- nothing grows together -/
def Apart (p r : List Nat) : Prop := (∀ c, p.getLast? = some c → L c = true → ∀ d, r.head? = some d → L d = false) ∧ (p = [60] → r.head? ≠ some 61)
theorem takeWhile_app {p r : List Nat} (h : ∀ d ∈ p, L d = true) (hr : ∀ d, r.head? = some d → L d = false) : (p ++ r).takeWhile L = p ∧ (p ++ r).dropWhile L = r := by
  induction p with
  | nil =>
    cases r with
    | nil => exact ⟨rfl, rfl⟩
    | cons d r =>
      have := hr d rfl
      constructor
      · rw [List.nil_append, List.takeWhile_cons_of_neg (by rw [this]; exact Bool.false_ne_true)]
      · rw [List.nil_append, List.dropWhile_cons_of_neg (by rw [this]; exact Bool.false_ne_true)]
  | cons c p ih =>
    obtain ⟨a, b⟩ := ih fun d hd => h d (by simp [hd])
    have hc := h c (by simp)
    constructor
    · rw [List.cons_append, List.takeWhile_cons_of_pos hc, a]
    · rw [List.cons_append, List.dropWhile_cons_of_pos hc, b]
theorem tok_app (h60 : L 60 = false) {p r : List Nat} (t : IsTok L p) (a : Apart L p r) : tok L .n (p ++ r) = p :: tok L .n r := by
  cases t with
  | run c q h =>
    have hl : ∀ d, r.head? = some d → L d = false := fun d e => by
      have hx : (c :: q).getLast? = some ((c :: q).getLast (by simp)) := List.getLast?_eq_getLast (by simp)
      exact a.1 _ hx (h _ (List.getLast_mem _)) d e
    obtain ⟨x, y⟩ := takeWhile_app L (p := q) (fun d hd => h d (by simp [hd])) hl
    rw [List.cons_append, tok_L L (h c (by simp)), x, y]
  | le => rw [List.cons_append, List.cons_append, List.nil_append, tok, if_neg (by rw [h60]; exact Bool.false_ne_true), if_pos rfl, tok_lt_eq]
  | one c h hb =>
    by_cases e : c = 60
    · subst e
      rw [List.cons_append, List.nil_append, tok, if_neg (by rw [h]; exact Bool.false_ne_true), if_pos rfl, tok_lt_ne L (a.2 rfl)]
    · rw [List.cons_append, List.nil_append, tok_other L h e, if_neg (by rw [hb]; exact Bool.false_ne_true)]
/-- pieces with gaps in front -/
def Gaps : List Nat → List (List Nat × List Nat) → Prop
  | _, [] => True
  | last, (g, p) :: r => (∀ c ∈ g, blank c = true ∧ L c = false) ∧ IsTok L p ∧ (g = [] → Apart L last p) ∧ Gaps p r
def glue (ps : List (List Nat × List Nat)) (e : List Nat) : List Nat := (ps.map fun q => q.1 ++ q.2).flatten ++ e
theorem apart_head {p r s : List Nat} (h : r.head? = s.head?) (a : Apart L p r) : Apart L p s := ⟨fun c e l d f => a.1 c e l d (by rw [h]; exact f), fun e f => a.2 e (by rw [h]; exact f)⟩
theorem apart_blank {p : List Nat} {c : Nat} {r : List Nat} (h : blank c = true) (hL : L c = false) : Apart L p (c :: r) := ⟨fun _ _ _ _ e => (by cases e; exact hL), fun _ e => (by cases e; exact absurd h (by decide))⟩
theorem apart_nil {p : List Nat} : Apart L p [] := ⟨fun _ _ _ _ e => (by cases e), fun _ e => (by cases e)⟩
theorem istok_ne {p : List Nat} (t : IsTok L p) : ∃ c r, p = c :: r := by cases t <;> exact ⟨_, _, rfl⟩
theorem tok_glue (h60 : L 60 = false) : ∀ (ps : List (List Nat × List Nat)) (last e : List Nat), Gaps L last ps → (∀ c ∈ e, blank c = true ∧ L c = false) → tok L .n (glue ps e) = ps.map (·.2)
  | [], _, e, _, he => by
    show tok L .n ([] ++ e) = []
    rw [List.nil_append, ← List.append_nil e, tok_blanks L he]; rfl
  | (g, p) :: r, _, e, ⟨hg, ht, _, hr⟩, he => by
    have ih := tok_glue h60 r p e hr he
    have ap : Apart L p (glue r e) := by
      cases r with
      | nil =>
        show Apart L p ([] ++ e)
        cases e with
        | nil => exact apart_nil L
        | cons c e => exact apart_blank L (he c (by simp)).1 (he c (by simp)).2
      | cons q r =>
        obtain ⟨g2, p2⟩ := q
        obtain ⟨hg2, ht2, a2, _⟩ := hr
        obtain ⟨c, p3, rfl⟩ := istok_ne L ht2
        cases g2 with
        | nil => exact apart_head L (by rfl) (a2 rfl)
        | cons d g2 => exact apart_blank L (hg2 d (by simp)).1 (hg2 d (by simp)).2
    show tok L .n ((((g ++ p) :: r.map fun q => q.1 ++ q.2).flatten) ++ e) = p :: r.map (·.2)
    rw [List.flatten_cons, List.append_assoc, List.append_assoc, tok_blanks L hg]
    show tok L .n (p ++ glue r e) = _
    rw [tok_app L h60 ht ap, ih]
/-! ### the law's own cutting: from the left -/
def step (s : List (List Nat) × Nat) (c : Nat) : List (List Nat) × Nat :=
  (if L c && L s.2 then s.1.dropLast ++ [s.1.getLast?.getD [] ++ [c]]
   else if c = 61 ∧ s.2 = 60 then s.1.dropLast ++ [[60, 61]]
   else if blank c then s.1 else s.1 ++ [[c]], c)
theorem step_run {s : List (List Nat) × Nat} {c : Nat} (h : L c = true) (h2 : L s.2 = true) : step L s c = (s.1.dropLast ++ [s.1.getLast?.getD [] ++ [c]], c) := by
  unfold step; rw [h, h2]; rfl
theorem step_le {F : List (List Nat)} (h61 : L 61 = false) : step L (F, 60) 61 = (F.dropLast ++ [[60, 61]], 61) := by
  unfold step; simp [h61]
theorem step_new {F : List (List Nat)} {x c : Nat} (h : (L c && L x) = false) (h2 : ¬ (c = 61 ∧ x = 60)) (hb : blank c = false) : step L (F, x) c = (F ++ [[c]], c) := by
  unfold step
  show (if (L c && L x) = true then _ else _, c) = _
  rw [if_neg (by rw [h]; exact Bool.false_ne_true), if_neg h2, if_neg (by rw [hb]; exact Bool.false_ne_true)]
theorem step_blank {F : List (List Nat)} {x c : Nat} (h : (L c && L x) = false) (h2 : ¬ (c = 61 ∧ x = 60)) (hb : blank c = true) : step L (F, x) c = (F, c) := by
  unfold step
  show (if (L c && L x) = true then _ else _, c) = _
  rw [if_neg (by rw [h]; exact Bool.false_ne_true), if_neg h2, if_pos hb]
theorem step_tok (h60 : L 60 = false) (h61 : L 61 = false) (hbl : ∀ c, L c = true → blank c = false) : ∀ (l : List Nat) (F : List (List Nat)) (w : List Nat) (x : Nat),
    (L x = true → (l.foldl (step L) (F ++ [w], x)).1 = F ++ tok L (.run w) l) ∧
    ((l.foldl (step L) (F ++ [[60]], 60)).1 = F ++ tok L .lt l) ∧
    (L x = false → x ≠ 60 → (l.foldl (step L) (F, x)).1 = F ++ tok L .n l)
  | [], F, w, x => ⟨fun _ => by simp [tok], by simp [tok], fun _ _ => by simp [tok]⟩
  | c :: r, F, w, x => by
    -- a sign that is met where nothing goes on
    have start : ∀ (G : List (List Nat)) (y : Nat), (L c && L y) = false → ¬ (c = 61 ∧ y = 60) → (r.foldl (step L) (step L (G, y) c)).1 = G ++ tok L .n (c :: r) := fun G y hy hy2 => by
      by_cases hc : L c = true
      · rw [step_new L hy hy2 (hbl c hc), (step_tok h60 h61 hbl r G [c] c).1 hc, tok, if_pos hc]
      · have hc' : L c = false := by cases h : L c with | false => rfl | true => exact absurd h hc
        by_cases e : c = 60
        · subst e
          rw [step_new L hy hy2 (by decide), (step_tok h60 h61 hbl r G [] 0).2.1, tok, if_neg hc, if_pos rfl]
        · rw [tok_other L hc' e]
          cases hb : blank c with
          | true => rw [step_blank L hy hy2 hb, (step_tok h60 h61 hbl r G [] c).2.2 hc' e]; rfl
          | false =>
            rw [step_new L hy hy2 hb, (step_tok h60 h61 hbl r (G ++ [[c]]) [] c).2.2 hc' e, List.append_assoc]; rfl
    refine ⟨fun hx => ?_, ?_, fun hx h6 => ?_⟩
    · rw [List.foldl_cons]
      by_cases hc : L c = true
      · rw [step_run L hc hx]
        simp only [List.dropLast_concat, List.getLast?_concat, Option.getD_some]
        rw [(step_tok h60 h61 hbl r F (w ++ [c]) c).1 hc, tok, if_pos hc]
      · have hc' : L c = false := by cases h : L c with | false => rfl | true => exact absurd h hc
        rw [start (F ++ [w]) x (by rw [hc']; rfl) (fun z => by rw [z.2, h60] at hx; cases hx), tok_run, List.takeWhile_cons_of_neg hc, List.dropWhile_cons_of_neg hc, List.append_nil, List.append_assoc]; rfl
    · rw [List.foldl_cons]
      by_cases e : c = 61
      · subst e
        rw [step_le L h61, List.dropLast_concat, tok_lt_eq]
        rw [(step_tok h60 h61 hbl r (F ++ [[60, 61]]) [] 61).2.2 h61 (by decide), List.append_assoc]; rfl
      · rw [start (F ++ [[60]]) 60 (by rw [h60, Bool.and_false]) (fun z => e z.1), tok_lt_ne L (by intro z; cases z; exact e rfl), List.append_assoc]; rfl
    · rw [List.foldl_cons]
      exact start F x (by rw [hx, Bool.and_false]) fun z => h6 z.2
end K07
namespace DL
open PySem PySem.Spec PyProof.Rows L2 K07
local macro_rules | `(tactic| walk_at "ev") => `(tactic| try simp only [e_seq, e_next, e_brk, e_cnt, e_drop, e_ret, e_retN, e_ifS, e_asg, e_gN, e_gSb, e_gTp, e_gCn, e_gNl, e_var, e_varK, e_nth0, e_nthS, e_put0, e_putS, e_c, e_op, e_un, e_call, e_nil, e_cons, e_tup, e_lst, e_test, e_asB, e_tru, e_andT, e_orT, e_notT, e_andV, e_orV, e_notV, e_if, e_aug, e_augS, e_sl, e_part, e_partK, e_noPart, e_bm0, e_bm, e_join, e_yes, e_wipe0, e_wipeS, e_lc, e_for, v_add, v_addS, v_addT, v_iadd, v_sub, v_mul, v_fdiv, v_mod, v_pow, v_shl, v_shr, v_neg, v_lt, v_le, v_gt, v_ge, v_eqI, v_neI, v_eqS, v_neS, v_inS, v_ninS, v_inT, v_ninT, v_inR, v_ninR, v_inSeq, v_seqO, v_seqR, v_seqT, v_seqL, v_ixR, v_ixT, v_ixL, v_ixS, v_at, v_atK, v_atS, v_atSK, v_get, v_getL, v_getK, v_set, v_setL, v_setK, v_on1, v_on2, v_lenR, v_lenT, v_lenL, v_lenS, v_seqK, v_tuple, v_list, v_abs, v_intI, v_intB, v_okL, v_isLst, v_app, v_lstK, v_slS, v_slT, v_join, v_is, v_isnot, v_max, v_min, v_iSeq, v_srcT, v_srcL, v_srcS, v_srcR, v_srcO, v_iRg1, v_rg1, v_truN, v_truB, v_truI, v_truS, v_truR, v_truT, v_truRol, v_truL])
def Lt (c : Nat) : Bool := decide (c ∈ ck_LETTERS.cps.toList)
def W (w : List Nat) : D := .str ⟨w.toArray⟩
def Ws (ws : List (List Nat)) : List D := ws.map W
def tks (z : Str) : List (List Nat) := tok Lt .n z.cps.toList
def sp_tokens_of : P1 := fun ds h Q => ∃ z : Str, ds = [.str z] ∧ z.length ≤ 10000 ∧ Q (.tup (Ws (tks z))) h
theorem len_tokens_of : ∀ ds h Q, sp_tokens_of ds h Q → ds.length = 1 := fun ds h Q ⟨z, e, _⟩ => by rw [e]; rfl
theorem Lt60 : Lt 60 = false := by decide +kernel
theorem Lt61 : Lt 61 = false := by decide +kernel
theorem Ltb : ∀ c, Lt c = true → blank c = false := by
  intro c h
  have m : c ∈ ck_LETTERS.cps.toList := of_decide_eq_true h
  have : ∀ c ∈ ck_LETTERS.cps.toList, blank c = false := by decide +kernel
  exact this c m
theorem inS_L (c : Nat) : inS ⟨#[c]⟩ ck_LETTERS = Lt c := inS_one c _
theorem drop_cons {l : List Nat} {k : Nat} (h : k < l.length) : l.drop k = l[k] :: l.drop (k + 1) := List.drop_eq_getElem_cons h
theorem atI_at {l : List Nat} {i : Int} {k : Nat} (e : i = (k : Int)) (h : k < l.length) : atI l i = some l[k] := atI_of e (List.getElem?_eq_getElem h)
theorem cut_at {z : Str} {i j : Int} {a b : Nat} (hi : i = (a : Int)) (hj : j = (b : Int)) : cutS z (some i) (some j) = ⟨((z.cps.toList.drop (min a z.length)).take (min b z.length - min a z.length)).toArray⟩ := by
  subst hi hj
  unfold cutS
  rw [HT.sIx_nat, HT.sIx_nat]
theorem len_of (z : Str) : z.cps.toList.length = z.length := Array.length_toList
theorem str_ext {a b : List Nat} : ((⟨a.toArray⟩ : Str) = ⟨b.toArray⟩) = (a = b) := by
  apply propext
  constructor
  · intro e
    have := congrArg (fun s : Str => s.cps.toList) e
    simpa using this
  · intro e; rw [e]
/-- the run at a place: k letters so far -/
theorem run_end {r : List Nat} {k : Nat} (hk : k ≤ r.length) (hl : ∀ d ∈ r.take k, Lt d = true) (he : ∀ (h : k < r.length), Lt r[k] = false) : r.takeWhile Lt = r.take k ∧ r.dropWhile Lt = r.drop k := by
  have e := takeWhile_app Lt (p := r.take k) (r := r.drop k) hl fun d hd => by
    by_cases h : k < r.length
    · rw [drop_cons h] at hd; cases hd; exact he h
    · rw [List.drop_eq_nil_of_le (by omega)] at hd; cases hd
  rw [List.take_append_drop] at e
  exact e
theorem lt_size {n : Nat} (h : n ≤ 10000) : n < sizeLine := Nat.lt_of_le_of_lt h (by decide)
section
variable {z : Str} {l : Addr} {h0 : MH} {N : Nd}
/-- the end of a turn: the token from a to b, if it is no blank -/
theorem tok_tail {a b : Nat} {F : List (List Nat)} (ha : a < z.cps.toList.length) (hab : a < b) (hb : b ≤ z.length) (hz : z.length ≤ 10000) (hF : F.length ≤ a) {w : List Nat} (hw : (z.cps.toList.drop a).take (b - a) = w)
    (fin : N.nx [some (.str z), some (.ref l), some (.int b), some (.int b)] (up h0 l (.lst (Ws (if blank z.cps.toList[a] then F else F ++ [w]))))) : rd_tokens_of_b1_2 N [some (.str z), some (.ref l), some (.int a), some (.int b)] (up h0 l (.lst (Ws F))) := by
  have hlen := len_of z
  unfold rd_tokens_of_b1_2 rd_tokens_of_b1_3
  walk_at "ev"
  rw [atI_at rfl ha]
  walk_at "ev"
  refine ⟨by show 2 ≤ sizeLine; decide, rfl, rfl, ?_⟩
  have e : ([D.str (Str.ofString " "), D.str (Str.ofString "\n")].any fun y => eqF y (.str ⟨#[z.cps.toList[a]]⟩)) = blank z.cps.toList[a] := by
    simp only [List.any_cons, List.any_nil, eqF, pd, eqv_str, Bool.or_false]
    have s1 : Str.ofString " " = ⟨[32].toArray⟩ := by rfl
    have s2 : Str.ofString "\n" = ⟨[10].toArray⟩ := by rfl
    have s3 : (⟨#[z.cps.toList[a]]⟩ : Str) = ⟨[z.cps.toList[a]].toArray⟩ := rfl
    rw [s1, s2, s3]
    simp only [str_ext]
    unfold blank
    generalize z.cps.toList[a] = c
    by_cases h1 : c = 32
    · subst h1; rfl
    · by_cases h2 : c = 10
      · subst h2; rfl
      · have e1 : decide ([32] = [c]) = false := decide_eq_false fun q => h1 (by cases q; rfl)
        have e2 : decide ([10] = [c]) = false := decide_eq_false fun q => h2 (by cases q; rfl)
        rw [e1, e2, beq_eq_false_iff_ne.mpr h1, beq_eq_false_iff_ne.mpr h2]
  rw [e]
  cases hb2 : blank z.cps.toList[a] with
  | true =>
    rw [hb2] at fin
    simp only [Bool.not_true, Bool.false_eq_true, if_false, if_true] at fin ⊢
    walk_at "ev"
    exact fin
  | false =>
    rw [hb2] at fin
    simp only [Bool.not_false, if_true, Bool.false_eq_true, if_false] at fin ⊢
    walk_at "ev"
    rw [up_same]
    walk_at "ev"
    refine ⟨trivial, ?_, ?_⟩
    · unfold Ws; rw [List.length_map]; exact lt_size (by omega)
    · rw [up_up, cut_at rfl rfl, Nat.min_eq_left (show a ≤ z.length by omega), Nat.min_eq_left hb, hw]
      have : Ws F ++ [D.str ⟨w.toArray⟩] = Ws (F ++ [w]) := by unfold Ws; rw [List.map_append]; rfl
      rw [this]
      exact fin
end
theorem sat_tokens_of : ∀ ds h Q, sp_tokens_of ds h Q → rd_tokens_of (endN Q) (startD 4 ds) h := by
  rintro ds h Q ⟨z, rfl, hz, q⟩
  have hlen := len_of z
  show rd_tokens_of (endN Q) [some (.str z), none, none, none] h
  unfold rd_tokens_of
  walk_at "ev"
  refine ⟨Nat.zero_le _, fun l nl => ?_⟩
  unfold rd_tokens_of_1 rd_tokens_of_2
  walk_at "ev"
  refine ⟨fun m σ hh => ∃ (a : Nat) (F : List (List Nat)), σ = [some (.str z), some (.ref l), some (.int a), none] ∧ hh = up h l (.lst (Ws F)) ∧ a ≤ z.length ∧ F ++ tok Lt .n (z.cps.toList.drop a) = tks z ∧ F.length ≤ a ∧ m = z.length - a,
    ⟨_, Lw.of ⟨0, [], rfl, rfl, Nat.zero_le _, rfl, Nat.zero_le _, rfl⟩⟩, ?_⟩
  rintro m σ hh ⟨a, F, rfl, rfl, ha, hF, hFl, rfl⟩
  walk_at "ev"
  simp only [decide_eq_true_eq]
  split
  · rename_i hlt
    have hlt : a < z.length := by omega
    have hla : a < z.cps.toList.length := by omega
    have hd := drop_cons hla
    -- what a turn's end brings
    have fin : ∀ (b : Nat) (w : List Nat), a < b → b ≤ z.length → tok Lt .n (z.cps.toList.drop a) = (if blank z.cps.toList[a] then [] else [w]) ++ tok Lt .n (z.cps.toList.drop b) →
        ∃ m', m' < z.length - a ∧ Lw (fun σ hh => ∃ (a : Nat) (F : List (List Nat)), σ = [some (.str z), some (.ref l), some (.int a), none] ∧ hh = up h l (.lst (Ws F)) ∧ a ≤ z.length ∧ F ++ tok Lt .n (z.cps.toList.drop a) = tks z ∧ F.length ≤ a ∧ m' = z.length - a)
          [some (.str z), some (.ref l), some (.int b), some (.int b)] (up h l (.lst (Ws (if blank z.cps.toList[a] then F else F ++ [w])))) := fun b w hab hb e => by
      refine ⟨z.length - b, by omega, _, _, leS.cons (leS.cons (leS.cons (leS.skip leS.nil))), le.refl, b, _, rfl, rfl, hb, ?_, ?_, rfl⟩
      · rw [← hF, e]
        split <;> simp
      · split
        · omega
        · rw [List.length_append, List.length_singleton]; omega
    unfold rd_tokens_of_b1 rd_tokens_of_b1_1
    walk_at "ev"
    rw [atI_at rfl hla]
    walk_at "ev"
    rw [inS_L]
    split
    · rename_i hL
      -- a run
      refine ⟨fun m σ hh => ∃ k : Nat, σ = [some (.str z), some (.ref l), some (.int a), some (.int ((a + 1 + k : Nat) : Int))] ∧ hh = up h l (.lst (Ws F)) ∧ a + 1 + k ≤ z.length ∧ (∀ d ∈ (z.cps.toList.drop (a + 1)).take k, Lt d = true) ∧ m = z.length - k,
        ⟨_, Lw.of ⟨0, rfl, rfl, by omega, by simp, rfl⟩⟩, ?_⟩
      rintro m σ hh ⟨k, rfl, rfl, hk, hall, rfl⟩
      have hdl : (z.cps.toList.drop (a + 1)).length = z.length - (a + 1) := by rw [List.length_drop, hlen]
      have done_ : ∀ N : Nd, (∀ σ' h', (∃ m', m' < z.length - a ∧ Lw (fun σ hh => ∃ (a : Nat) (F : List (List Nat)), σ = [some (.str z), some (.ref l), some (.int a), none] ∧ hh = up h l (.lst (Ws F)) ∧ a ≤ z.length ∧ F ++ tok Lt .n (z.cps.toList.drop a) = tks z ∧ F.length ≤ a ∧ m' = z.length - a) σ' h') → N.nx σ' h') → (∀ (hx : k < (z.cps.toList.drop (a + 1)).length), Lt (z.cps.toList.drop (a + 1))[k] = false) → rd_tokens_of_b1_2 N [some (.str z), some (.ref l), some (.int a), some (.int ((a + 1 + k : Nat) : Int))] (up h l (.lst (Ws F))) := fun N hN he => by
        obtain ⟨e1, e2⟩ := run_end (by omega) hall he
        refine tok_tail hla (by omega) hk hz hFl (w := z.cps.toList[a] :: (z.cps.toList.drop (a + 1)).take k) ?_ ?_
        · rw [hd, show a + 1 + k - a = k + 1 by omega, List.take_succ_cons]
        · refine hN _ _ (fin (a + 1 + k) _ (by omega) hk ?_)
          rw [Ltb _ hL, hd, tok_L Lt hL, e1, e2, List.drop_drop]
          rfl
      walk_at "ev"
      simp only [decide_eq_true_eq]
      split
      · rename_i h2
        have hk2 : a + 1 + k < z.cps.toList.length := by omega
        rw [atI_at rfl hk2]
        walk_at "ev"
        rw [inS_L]
        have eg : (z.cps.toList.drop (a + 1))[k]'(by omega) = z.cps.toList[a + 1 + k] := by rw [List.getElem_drop]
        split
        · rename_i hL2
          unfold rd_tokens_of_b2
          walk_at "ev"
          refine ⟨z.length - (k + 1), by omega, Lw.of ⟨k + 1, rfl, rfl, by omega, fun d hd2 => ?_, rfl⟩⟩
          rw [List.take_succ_eq_append_getElem (by omega), List.mem_append] at hd2
          rcases hd2 with hd2 | hd2
          · exact hall d hd2
          · rw [List.mem_singleton.mp hd2, eg]; exact hL2
        · rename_i hL2
          refine done_ _ (fun _ _ x => x) fun hx => ?_
          rw [eg]
          exact Bool.eq_false_iff.mpr hL2
      · rename_i h2
        simp only [Bool.false_eq_true, if_false]
        exact done_ _ (fun _ _ x => x) fun hx => by omega
    · rename_i hL
      have hL := Bool.eq_false_iff.mpr hL
      have one : ∀ N : Nd, (∀ σ' h', (∃ m', m' < z.length - a ∧ Lw (fun σ hh => ∃ (a : Nat) (F : List (List Nat)), σ = [some (.str z), some (.ref l), some (.int a), none] ∧ hh = up h l (.lst (Ws F)) ∧ a ≤ z.length ∧ F ++ tok Lt .n (z.cps.toList.drop a) = tks z ∧ F.length ≤ a ∧ m' = z.length - a) σ' h') → N.nx σ' h') → z.cps.toList[a] ≠ 60 ∨ (z.cps.toList.drop (a + 1)).head? ≠ some 61 → rd_tokens_of_b1_2 N [some (.str z), some (.ref l), some (.int a), some (.int ((a + 1 : Nat) : Int))] (up h l (.lst (Ws F))) := fun N hN h6 => by
        refine tok_tail hla (by omega) (by omega) hz hFl (w := [z.cps.toList[a]]) ?_ ?_
        · rw [hd, show a + 1 - a = 1 by omega]; rfl
        · refine hN _ _ (fin (a + 1) _ (by omega) (by omega) ?_)
          rw [hd]
          by_cases e : z.cps.toList[a] = 60
          · have h7 := h6.resolve_left (fun n => n e)
            rw [e, tok, if_neg (by rw [Lt60]; exact Bool.false_ne_true), if_pos rfl, tok_lt_ne Lt h7]
            rfl
          · rw [tok_other Lt hL e]
            split <;> rfl
      have hcut : cutS z (some (a : Int)) (some ((a : Int) + 2)) = ⟨((z.cps.toList.drop a).take 2).toArray⟩ := by
        rw [cut_at rfl (show (a : Int) + 2 = ((a + 2 : Nat) : Int) by omega), Nat.min_eq_left (show a ≤ z.length by omega)]
        by_cases hx : a + 2 ≤ z.length
        · rw [Nat.min_eq_left hx, show a + 2 - a = 2 by omega]
        · rw [Nat.min_eq_right (by omega), show z.length - a = 1 by omega]
          rw [List.take_of_length_le (i := 1) (by rw [List.length_drop]; omega), List.take_of_length_le (i := 2) (by rw [List.length_drop]; omega)]
      walk_at "ev"
      rw [hcut]
      have s1 : Str.ofString "<=" = ⟨[60, 61].toArray⟩ := by rfl
      simp only [s1, str_ext, decide_eq_true_eq]
      split
      · rename_i h2
        have hx : a + 2 ≤ z.length := by
          have := congrArg List.length h2
          rw [List.length_take, List.length_drop, hlen] at this
          simp only [List.length_cons, List.length_nil] at this; omega
        have hd2 : z.cps.toList.drop (a + 1) = z.cps.toList[a + 1]'(by omega) :: z.cps.toList.drop (a + 2) := drop_cons (by omega)
        rw [hd, hd2] at h2
        simp only [List.take_succ_cons, List.take_zero, List.cons.injEq, and_true] at h2
        refine tok_tail (b := a + 2) hla (by omega) hx hz hFl (w := [60, 61]) ?_ ?_
        · rw [hd, hd2, show a + 2 - a = 2 by omega, h2.1, h2.2]; rfl
        · refine fin (a + 2) _ (by omega) hx ?_
          rw [hd, hd2, h2.1, h2.2, tok, if_neg (by rw [Lt60]; exact Bool.false_ne_true), if_pos rfl, tok_lt_eq]
          rfl
      · rename_i h2
        refine one _ (fun _ _ x => x) ?_
        by_cases e : z.cps.toList[a] = 60
        · refine .inr fun e2 => h2 ?_
          rw [hd]
          cases hr : z.cps.toList.drop (a + 1) with
          | nil => rw [hr] at e2; cases e2
          | cons x r => rw [hr] at e2; cases e2; rw [e]; rfl
        · exact .inl e
  · rename_i hge
    have e : a = z.length := by omega
    subst e
    rw [List.drop_eq_nil_of_le (by omega)] at hF
    unfold rd_tokens_of_3
    walk_at "ev"
    rw [up_same]
    walk_at "ev"
    have hF : F = tks z := by rw [← hF]; simp [tok]
    rw [hF]
    exact ⟨h, le.up nl, q⟩
end DL
namespace DL
open PySem PySem.Spec PyProof.Rows L2 K07
local macro_rules | `(tactic| walk_at "ev") => `(tactic| try simp only [e_seq, e_next, e_brk, e_cnt, e_drop, e_ret, e_retN, e_ifS, e_asg, e_gN, e_gSb, e_gTp, e_gCn, e_gNl, e_var, e_varK, e_nth0, e_nthS, e_put0, e_putS, e_c, e_op, e_un, e_call, e_nil, e_cons, e_tup, e_lst, e_test, e_asB, e_tru, e_andT, e_orT, e_notT, e_andV, e_orV, e_notV, e_if, e_aug, e_augS, e_sl, e_part, e_partK, e_noPart, e_bm0, e_bm, e_join, e_yes, e_wipe0, e_wipeS, e_lc, e_for, v_add, v_addS, v_addT, v_iadd, v_sub, v_mul, v_fdiv, v_mod, v_pow, v_shl, v_shr, v_neg, v_lt, v_le, v_gt, v_ge, v_eqI, v_neI, v_eqS, v_neS, v_inS, v_ninS, v_inT, v_ninT, v_inR, v_ninR, v_inSeq, v_seqO, v_seqR, v_seqT, v_seqL, v_ixR, v_ixT, v_ixL, v_ixS, v_at, v_atK, v_atS, v_atSK, v_get, v_getL, v_getK, v_set, v_setL, v_setK, v_on1, v_on2, v_lenR, v_lenT, v_lenL, v_lenS, v_seqK, v_tuple, v_list, v_abs, v_intI, v_intB, v_okL, v_isLst, v_app, v_lstK, v_slS, v_slT, v_join, v_is, v_isnot, v_max, v_min, v_iSeq, v_srcT, v_srcL, v_srcS, v_srcR, v_srcO, v_iRg1, v_rg1, v_truN, v_truB, v_truI, v_truS, v_truR, v_truT, v_truRol, v_truL])
theorem len__law_begin : ∀ ds h Q, sp__law_begin ds h Q → ds.length = 1 := fun ds h Q ⟨cs, e, _⟩ => by rw [e]; rfl
theorem sat__law_begin : ∀ ds h Q, sp__law_begin ds h Q → rd__law_begin (endN Q) (startD 2 ds) h := by
  rintro ds h Q ⟨cs, rfl, hl, q⟩
  show rd__law_begin (endN Q) [some (.rol (cs.map D.int)), none] h
  unfold rd__law_begin
  walk_at "ev"
  refine ⟨by rw [List.length_map]; exact Nat.le_trans hl (by decide), fun i acc hh => hh = h ∧ acc = (cs.take i).map D.int, ⟨h, le.refl, rfl, rfl⟩, fun _ _ _ _ => trivial, ?_, ?_⟩
  · rintro i x acc hh hx ⟨rfl, rfl⟩
    rw [List.getElem?_map] at hx
    obtain ⟨n, hn, rfl⟩ := Option.map_eq_some_iff.mp hx
    walk_at "ev"
    rw [if_pos trivial]
    refine ⟨hh, le.refl, rfl, ?_⟩
    obtain ⟨hlt, e⟩ := List.getElem?_eq_some_iff.mp hn
    rw [List.take_succ_eq_append_getElem hlt, List.map_append, e]; rfl
  · rintro acc hh ⟨rfl, rfl⟩ p np
    walk_at "ev"
    refine ⟨by show 5 ≤ sizeLine; decide, fun a na => ?_⟩
    rw [List.length_map, List.take_length]
    have npa : a ≠ p := fun z => by rw [z, up_same] at na; cases na
    exact lh_of (q a p _ (by rw [up_ne npa] at na; exact na) np npa ⟨0, 0, 7, by decide, rfl⟩)
theorem len__law_pick : ∀ ds h Q, sp__law_pick ds h Q → ds.length = 2 := fun ds h Q ⟨a, c, cs, row, xs, e, _⟩ => by rw [e]; rfl
theorem sat__law_pick : ∀ ds h Q, sp__law_pick ds h Q → rd__law_pick sp__law_draw (endN Q) (startD 2 ds) h := by
  rintro ds h Q ⟨a, c, cs, row, xs, rfl, d, hr, hne, hx, hl, q⟩
  show rd__law_pick sp__law_draw (endN Q) [some (.ref a), some row] h
  unfold rd__law_pick
  walk_at "ev"
  refine len_row hr ?_
  have hp : 0 < xs.length := List.length_pos_iff.mpr hx
  refine ⟨a, c, cs, _, rfl, by omega, by omega, d, fun r o h0 h1 k => ?_⟩
  obtain ⟨j, rfl⟩ := Int.eq_ofNat_of_zero_le h0
  have hj : j < xs.length := by omega
  have hr' : rowOf (up h a o) row = some xs := by
    cases row <;> try exact hr
    case ref l =>
      have : l ≠ a := fun z => hne (by rw [z])
      show seqO (up h a o l) = some xs
      rw [up_ne this]; exact hr
  exact ix_row hr' (List.getElem?_eq_getElem hj) (lh_of (q _ o (List.getElem_mem hj) k))
/-! ### cut -/
def sp__law_cut : P1 := fun ds h Q => ∃ z : Str, ds = [.str z] ∧ z.length ≤ 10000 ∧ ∀ l, h l = none → Q (.ref l) (up h l (.lst (Ws (tks z))))
theorem len__law_cut : ∀ ds h Q, sp__law_cut ds h Q → ds.length = 1 := fun ds h Q ⟨z, e, _⟩ => by rw [e]; rfl
theorem ofW {F : List (List Nat)} {w : List Nat} : Ws (F ++ [w]) = Ws F ++ [W w] := by unfold Ws; rw [List.map_append]; rfl
theorem cps_one (c d : Nat) : ((⟨#[c]⟩ : Str) = ⟨#[d]⟩) = (c = d) := by
  apply propext
  constructor
  · intro e
    have := congrArg (fun s : Str => s.cps.toList) e
    simpa using this
  · intro e; rw [e]
theorem s_eq : Str.ofString "=" = ⟨#[61]⟩ := by rfl
theorem s_lt : Str.ofString "<" = ⟨#[60]⟩ := by rfl
theorem s_bl : Str.ofString " " = ⟨#[32]⟩ := by rfl
theorem s_nl : Str.ofString "\n" = ⟨#[10]⟩ := by rfl
theorem s_le : Str.ofString "<=" = ⟨[60, 61].toArray⟩ := by rfl
theorem fold_len (l : List Nat) : ∀ (s : List (List Nat) × Nat), (l.foldl (K07.step Lt) s).1.length ≤ s.1.length + l.length := by
  induction l with
  | nil => intro s; simp
  | cons c r ih =>
    intro s
    rw [List.foldl_cons, List.length_cons]
    have h1 := ih (K07.step Lt s c)
    have h2 : (K07.step Lt s c).1.length ≤ s.1.length + 1 := by
      unfold K07.step
      simp only
      split
      · rw [List.length_append, List.length_dropLast, List.length_singleton]; omega
      · split
        · rw [List.length_append, List.length_dropLast, List.length_singleton]; omega
        · split
          · omega
          · rw [List.length_append, List.length_singleton]; omega
    omega
theorem fold_last (l : List Nat) : ∀ (s : List (List Nat) × Nat), (l.foldl (K07.step Lt) s).2 = l.getLast?.getD s.2 := by
  induction l with
  | nil => intro s; rfl
  | cons c r ih =>
    intro s
    rw [List.foldl_cons, ih]
    cases r with
    | nil => rfl
    | cons d r => rw [List.getLast?_cons_cons]; rw [List.getLast?_eq_getLast (by simp)]; rfl
/-- where a run or a < stands in front, a token stands last -/
theorem fold_ne (l : List Nat) : ∀ (s : List (List Nat) × Nat), ((Lt s.2 = true ∨ s.2 = 60) → s.1 ≠ []) → (Lt (l.foldl (K07.step Lt) s).2 = true ∨ (l.foldl (K07.step Lt) s).2 = 60) → (l.foldl (K07.step Lt) s).1 ≠ [] := by
  induction l with
  | nil => intro s h; exact h
  | cons c r ih =>
    intro s h
    rw [List.foldl_cons]
    refine ih _ fun hc => ?_
    unfold K07.step at hc ⊢
    simp only at hc ⊢
    split
    · simp
    · split
      · simp
      · split
        · rename_i hb
          rcases hc with hc | hc
          · rw [Ltb c hc] at hb; cases hb
          · rw [hc] at hb; exact absurd hb (by decide)
        · simp
theorem fold_wl (l : List Nat) : ∀ (s : List (List Nat) × Nat) (k : Nat), 2 ≤ k → (∀ w ∈ s.1, w.length ≤ k) → ∀ w ∈ (l.foldl (K07.step Lt) s).1, w.length ≤ k + l.length := by
  induction l with
  | nil => intro s k _ h w hw; exact h w hw
  | cons c r ih =>
    intro s k hk h w hw
    rw [List.foldl_cons] at hw
    have := ih (K07.step Lt s c) (k + 1) (by omega) (fun v hv => ?_) w hw
    · rw [List.length_cons]; omega
    · unfold K07.step at hv
      simp only at hv
      split at hv
      · rcases List.mem_append.mp hv with hv | hv
        · have := h v (List.mem_of_mem_take (by rw [← List.dropLast_eq_take]; exact hv)); omega
        · rw [List.mem_singleton.mp hv, List.length_append, List.length_singleton]
          cases e : s.1.getLast? with
          | none => simp
          | some u => have := h u (List.mem_of_getLast? e); simp; omega
      · split at hv
        · rcases List.mem_append.mp hv with hv | hv
          · have := h v (List.mem_of_mem_take (by rw [← List.dropLast_eq_take]; exact hv)); omega
          · rw [List.mem_singleton.mp hv]; simp; omega
        · split at hv
          · have := h v hv; omega
          · rcases List.mem_append.mp hv with hv | hv
            · have := h v hv; omega
            · rw [List.mem_singleton.mp hv]; simp
theorem tks_fold (z : Str) : (z.cps.toList.foldl (K07.step Lt) ([], 32)).1 = tks z := by
  rw [(step_tok Lt Lt60 Lt61 Ltb z.cps.toList [] [] 32).2.2 (by decide +kernel) (by decide)]
  rfl
def cutI (z : Str) (l : Addr) (h : MH) (i : Nat) : Sl → MH → Prop := fun σ hh => ∃ s, s = (z.cps.toList.take i).foldl (K07.step Lt) ([], 32) ∧ σ = [some (.str z), some (.str ck_LETTERS), some (.ref l), some (.str ⟨#[s.2]⟩), none] ∧ hh = up h l (.lst (Ws s.1))
theorem sat__law_cut : ∀ ds h Q, sp__law_cut ds h Q → rd__law_cut (endN Q) (startD 5 ds) h := by
  rintro ds h Q ⟨z, rfl, hz, q⟩
  have hlen := len_of z
  show rd__law_cut (endN Q) [some (.str z), none, none, none, none] h
  unfold rd__law_cut
  walk_at "ev"
  unfold rd__law_cut_1
  walk_at "ev"
  refine ⟨Nat.zero_le _, fun l nl => ?_⟩
  unfold rd__law_cut_2 rd__law_cut_3
  walk_at "ev"
  -- the state behind i signs
  refine ⟨cutI z l h, Lw.of ⟨_, rfl, rfl, rfl⟩, fun _ _ _ _ => trivial, ?_, ?_⟩
  · rintro i x σ hh hx ⟨s, es, rfl, rfl⟩
    unfold signs at hx
    rw [List.getElem?_map] at hx
    obtain ⟨c, hc, rfl⟩ := Option.map_eq_some_iff.mp hx
    obtain ⟨hi, ec⟩ := List.getElem?_eq_some_iff.mp hc
    have es' : (z.cps.toList.take (i + 1)).foldl (K07.step Lt) ([], 32) = K07.step Lt s c := by
      rw [List.take_succ_eq_append_getElem hi, List.foldl_append, ← es, ec]; rfl
    have hn : s.1.length ≤ 10000 := by
      have := fold_len (z.cps.toList.take i) ([], 32)
      rw [← es, List.length_take] at this
      simp only [List.length_nil] at this
      omega
    have hne : (Lt s.2 = true ∨ s.2 = 60) → s.1 ≠ [] := by
      rw [es]
      exact fold_ne _ _ (by intro h; rcases h with h | h; exact absurd h (by decide +kernel); exact absurd h (by decide))
    have fin : ∀ N : Nd, (∀ σ' h', Lw (cutI z l h (i + 1)) σ' h' → N.nx σ' h') →
        ∀ h', le (up h l (.lst (Ws (K07.step Lt s c).1))) h' → rd__law_cut_b1_1 N [some (.str z), some (.str ck_LETTERS), some (.ref l), some (.str ⟨#[s.2]⟩), some (.str ⟨#[c]⟩)] h' := fun N hN h' hle => by
      unfold rd__law_cut_b1_1
      walk_at "ev"
      exact hN _ _ ⟨_, _, leS.cons (leS.cons (leS.cons (leS.cons (leS.skip leS.nil)))), hle, _, es'.symm, rfl, rfl⟩
    show gN 4 (.str ⟨#[c]⟩) [some (.str z), some (.str ck_LETTERS), some (.ref l), some (.str ⟨#[s.2]⟩), none] _ _
    walk_at "ev"
    unfold rd__law_cut_b1
    walk_at "ev"
    rw [inS_L]
    have last : s.1 ≠ [] → ∃ F w, s.1 = F ++ [w] := fun hx => ⟨s.1.dropLast, s.1.getLast hx, (List.dropLast_concat_getLast hx).symm⟩
    rw [inS_L]
    have cell : ∀ {w : List Nat} {F : List (List Nat)}, Ws (F ++ [w]) = Ws F ++ [W w] := ofW
    have setl : ∀ {w : List Nat} {F : List (List Nat)} {d : D}, (Ws F ++ [W w]).set ((Ws F ++ [W w]).length - 1) d = Ws F ++ [d] := fun {w F d} => by
      rw [List.length_append, List.length_singleton, Nat.add_sub_cancel, List.set_append_right _ _ (Nat.le_refl _), Nat.sub_self]; rfl
    by_cases hrun : Lt c = true ∧ Lt s.2 = true
    · rw [if_pos hrun.1, if_pos hrun.2, up_same]
      obtain ⟨F, w, e⟩ := last (hne (.inl hrun.2))
      have est : K07.step Lt s c = (F ++ [w ++ [c]], c) := by
        rw [step_run Lt hrun.1 hrun.2, e]; simp
      walk_at "ev"
      rw [e, cell, atI_neg (x := W w) (by simp)]
      unfold W
      walk_at "ev"
      have hw : w.length ≤ 20000 := by
        have := fold_wl (z.cps.toList.take i) ([], 32) 2 (by omega) (by simp) w (by rw [← es, e]; simp)
        rw [List.length_take] at this; omega
      refine ⟨?_, ?_⟩
      · show w.toArray.size + 1 ≤ sizeLine
        rw [List.size_toArray]; exact Nat.le_trans (Nat.add_le_add_right hw 1) (by decide)
      rw [up_same]
      walk_at "ev"
      rw [ixN_last (by simp)]
      walk_at "ev"
      rw [up_up]
      refine fin _ (fun _ _ x => x) _ ?_
      rw [est]
      have e2 : (Ws F ++ [D.str ⟨w.toArray⟩]).set ((Ws F ++ [D.str ⟨w.toArray⟩]).length - 1) (D.str ((⟨w.toArray⟩ : Str) ++ ⟨#[c]⟩)) = Ws (F ++ [w ++ [c]]) := by
        have e3 : ((⟨w.toArray⟩ : Str) ++ ⟨#[c]⟩) = ⟨(w ++ [c]).toArray⟩ := by
          show (⟨w.toArray ++ #[c]⟩ : Str) = _
          congr 1; simp
        rw [e3]
        exact setl.trans cell.symm
      rw [e2]
      exact le.refl
    · have hcl : (Lt c && Lt s.2) = false := by
        cases h1 : Lt c <;> cases h2 : Lt s.2 <;> simp_all
      -- the arms behind
      have arms : ∀ N : Nd, (∀ σ' h', Lw (cutI z l h (i + 1)) σ' h' → N.nx σ' h') →
          (dIfS (dAndT (dTest (dOp eqD (dVar 4) (dC (.str (Str.ofString "="))))) (dTest (dOp eqD (dVar 3) (dC (.str (Str.ofString "<")))))) (dAsg (dC (.str (Str.ofString "<="))) (gSb (dVar 2) (dUn negD (dC (.int 1))) setD))
            (dIfS (dTest (dOp ninD (dVar 4) (dLst (dCons (dC (.str (Str.ofString " "))) (dCons (dC (.str (Str.ofString "\n"))) dNil))))) (dDrop (dBM okL appendD (dVar 2) (dCons (dVar 4) dNil))) dNext)) { N with nx := rd__law_cut_b1_1 N }
            [some (.str z), some (.str ck_LETTERS), some (.ref l), some (.str ⟨#[s.2]⟩), some (.str ⟨#[c]⟩)] (up h l (.lst (Ws s.1))) := fun N hN => by
        walk_at "ev"
        simp only [s_eq, s_lt, cps_one, decide_eq_true_eq]
        by_cases h6 : c = 61 ∧ s.2 = 60
        · obtain ⟨F, w, e⟩ := last (hne (.inr h6.2))
          rw [if_pos h6.1, if_pos h6.2, up_same]
          walk_at "ev"
          rw [e, cell, ixN_last (by simp)]
          walk_at "ev"
          rw [up_up]
          refine fin N hN _ ?_
          have est : K07.step Lt s c = (F ++ [[60, 61]], 61) := by
            have : s = (F ++ [w], 60) := by rw [← e, ← h6.2]
            rw [this, h6.1, step_le Lt Lt61, List.dropLast_concat]
          rw [est]
          have e2 : (Ws F ++ [W w]).set ((Ws F ++ [W w]).length - 1) (D.str (Str.ofString "<=")) = Ws (F ++ [[60, 61]]) := by
            rw [s_le]; exact setl.trans cell.symm
          rw [e2]
          exact le.refl
        · have skip : ∀ A B : Prop, B → (if c = 61 then (if s.2 = 60 then A else B) else B) := fun A B hb => by
            split
            · split
              · exact absurd ⟨‹_›, ‹_›⟩ h6
              · exact hb
            · exact hb
          refine skip _ _ ⟨by show 2 ≤ sizeLine; decide, fun p np => ?_⟩
          have npl : l ≠ p := fun z => by rw [← z, up_same] at np; cases np
          rw [up_same]
          walk_at "ev"
          refine ⟨rfl, rfl, ?_⟩
          have eb : ([D.str (Str.ofString " "), D.str (Str.ofString "\n")].any fun y => eqF y (.str ⟨#[c]⟩)) = blank c := by
            simp only [List.any_cons, List.any_nil, eqF, pd, eqv_str, Bool.or_false, s_bl, s_nl, cps_one]
            unfold blank
            by_cases h1 : c = 32
            · subst h1; rfl
            · by_cases h2 : c = 10
              · subst h2; rfl
              · rw [decide_eq_false (fun q => h1 q.symm), decide_eq_false (fun q => h2 q.symm), beq_eq_false_iff_ne.mpr h1, beq_eq_false_iff_ne.mpr h2]
          rw [eb]
          cases hb : blank c with
          | true =>
            rw [if_neg (by decide)]
            refine fin N hN _ ?_
            rw [step_blank Lt (F := s.1) (x := s.2) hcl h6 hb]
            exact le.up np
          | false =>
            rw [if_pos (by decide), up_ne npl, up_same]
            refine ⟨trivial, ?_, ?_⟩
            · unfold Ws; rw [List.length_map]; exact lt_size hn
            · refine fin N hN _ ?_
              rw [step_new Lt (F := s.1) (x := s.2) hcl h6 hb]
              rw [up_com (fun z => npl z.symm), up_up]
              show le (up h l (.lst (Ws (s.1 ++ [[c]])))) _
              rw [cell]
              exact le.up (by
                rw [up_ne (fun z => npl z.symm)] at np ⊢
                exact np)
      by_cases h1 : Lt c = true
      · rw [if_pos h1, if_neg (fun h2 => hrun ⟨h1, h2⟩)]
        exact arms { nx := Lw (cutI z l h (i + 1)), rt := (endN Q).rt, bk := rd__law_cut_4 (endN Q), ct := Lw (cutI z l h (i + 1)) } (fun _ _ x => x)
      · rw [if_neg h1]
        exact arms { nx := Lw (cutI z l h (i + 1)), rt := (endN Q).rt, bk := rd__law_cut_4 (endN Q), ct := Lw (cutI z l h (i + 1)) } (fun _ _ x => x)
  · rintro σ hh ⟨s, es, rfl, rfl⟩
    unfold rd__law_cut_4
    walk_at "ev"
    rw [signs_len, ← hlen, List.take_length] at es
    rw [es, tks_fold]
    exact lh_of (q l nl)
end DL
namespace DL
open PySem PySem.Spec PyProof.Rows L2 K07
local macro_rules | `(tactic| walk_at "ev") => `(tactic| try simp only [e_seq, e_next, e_brk, e_cnt, e_drop, e_ret, e_retN, e_ifS, e_asg, e_gN, e_gSb, e_gTp, e_gCn, e_gNl, e_var, e_varK, e_nth0, e_nthS, e_put0, e_putS, e_c, e_op, e_un, e_call, e_nil, e_cons, e_tup, e_lst, e_test, e_asB, e_tru, e_andT, e_orT, e_notT, e_andV, e_orV, e_notV, e_if, e_aug, e_augS, e_sl, e_part, e_partK, e_noPart, e_bm0, e_bm, e_join, e_yes, e_wipe0, e_wipeS, e_lc, e_for, v_add, v_addS, v_addT, v_iadd, v_sub, v_mul, v_fdiv, v_mod, v_pow, v_shl, v_shr, v_neg, v_lt, v_le, v_gt, v_ge, v_eqI, v_neI, v_eqS, v_neS, v_inS, v_ninS, v_inT, v_ninT, v_inR, v_ninR, v_inSeq, v_seqO, v_seqR, v_seqT, v_seqL, v_ixR, v_ixT, v_ixL, v_ixS, v_at, v_atK, v_atS, v_atSK, v_get, v_getL, v_getK, v_set, v_setL, v_setK, v_on1, v_on2, v_lenR, v_lenT, v_lenL, v_lenS, v_seqK, v_tuple, v_list, v_abs, v_intI, v_intB, v_okL, v_isLst, v_app, v_lstK, v_slS, v_slT, v_join, v_is, v_isnot, v_max, v_min, v_iSeq, v_srcT, v_srcL, v_srcS, v_srcR, v_srcO, v_iRg1, v_rg1, v_truN, v_truB, v_truI, v_truS, v_truR, v_truT, v_truRol, v_truL])
theorem joinL_nil : ∀ ps : List (List Nat), TL.joinL [] ps = ps.flatten
  | [] => rfl
  | [p] => by simp [TL.joinL]
  | p :: q :: r => by
    show p ++ ([] ++ TL.joinL [] (q :: r)) = _
    rw [List.nil_append, joinL_nil (q :: r)]; simp
theorem strs_W (F : List (List Nat)) : strsOf (Ws F) = some (F.map fun w => ⟨w.toArray⟩) := by
  have : Ws F = (F.map fun w => (⟨w.toArray⟩ : Str)).map D.str := by unfold Ws; rw [List.map_map]; rfl
  rw [this, strsOf_map]
theorem join_W (F : List (List Nat)) : Txt.join (Str.ofString "") (F.map fun w => ⟨w.toArray⟩) = ⟨F.flatten.toArray⟩ := by
  have h := join_tl (Str.ofString "") (F.map fun w => (⟨w.toArray⟩ : Str))
  have e0 : (Str.ofString "").cps.toList = [] := rfl
  have e1 : (F.map fun w => (⟨w.toArray⟩ : Str)).map (fun y => y.cps.toList) = F := by
    rw [List.map_map]
    have : ((fun y : Str => y.cps.toList) ∘ fun w : List Nat => (⟨w.toArray⟩ : Str)) = id := by funext w; rfl
    rw [this, List.map_id]
  rw [e0, e1, joinL_nil] at h
  have : Txt.join (Str.ofString "") (F.map fun w => ⟨w.toArray⟩) = ⟨(Txt.join (Str.ofString "") (F.map fun w => ⟨w.toArray⟩)).cps.toList.toArray⟩ := rfl
  rw [this, h]
theorem join_ok {h : MH} {Q : KD} {F : List (List Nat)} (hz : F.flatten.length ≤ 16000000) (q : Q (.str ⟨F.flatten.toArray⟩) h) : joinK (Str.ofString "") h Q (Ws F) := by
  refine ⟨_, strs_W F, ?_, by rw [join_W]; exact q⟩
  have e : (F.map fun w => (⟨w.toArray⟩ : Str)).map (·.length) = F.map List.length := by
    rw [List.map_map]
    exact List.map_congr_left fun w _ => by show w.toArray.size = _; rw [List.size_toArray]
  rw [e, ← List.length_flatten]
  show F.flatten.length + _ * 0 ≤ sizeLine
  rw [Nat.mul_zero]
  exact Nat.le_trans hz (by decide)
theorem signs_mem {z : Str} {x : D} (h : x ∈ signs z) : ∃ c ∈ z.cps.toList, x = .str ⟨#[c]⟩ := by
  unfold signs at h
  obtain ⟨c, hc, rfl⟩ := List.mem_map.mp h
  exact ⟨c, hc, rfl⟩
theorem nef {h : MH} {a b : Addr} {u : MO} (e : h b = some u) (n : h a = none) : b ≠ a := fun z => by rw [z, n] at e; cases e
/-! ### a token -/
def sp__law_token : P1 := fun ds h Q => ∃ a c cs, ds = [.ref a] ∧ Dr a c cs h ∧ ∀ w o, IsTok Lt w → w.length ≤ 30 → DrO c o → Q (W w) (up h a o)
theorem len__law_token : ∀ ds h Q, sp__law_token ds h Q → ds.length = 1 := fun ds h Q ⟨a, c, cs, e, _⟩ => by rw [e]; rfl
def sgn : Str := Str.ofString "!\"#$&'()*+,-./:;<=>?\x40[\\]^_`{|}~\t<=>"
theorem letters_of : ∀ (acc : List D), (∀ y ∈ acc, ∃ c, Lt c = true ∧ y = .str ⟨#[c]⟩) → ∃ w : List Nat, acc = Ws (w.map fun c => [c]) ∧ (∀ c ∈ w, Lt c = true) ∧ w.length = acc.length
  | [], _ => ⟨[], rfl, by simp, rfl⟩
  | x :: r, h => by
    obtain ⟨w, e, hw, hl⟩ := letters_of r fun y hy => h y (by simp [hy])
    obtain ⟨c, hc, rfl⟩ := h x (by simp)
    refine ⟨c :: w, by rw [e]; rfl, fun d hd => ?_, by simp [hl]⟩
    rcases List.mem_cons.mp hd with rfl | hd
    · exact hc
    · exact hw d hd
theorem flat_one (w : List Nat) : (w.map fun c => [c]).flatten = w := by induction w with
  | nil => rfl
  | cons c r ih => rw [List.map_cons, List.flatten_cons, ih]; rfl
theorem tok_5 {h : MH} {a c : Addr} {cs : List Int} {Q : KD} (d : Dr a c cs h) (q : ∀ w o, IsTok Lt w → w.length ≤ 30 → DrO c o → Lh Q (W w) (up h a o)) {x : Option D} {m : Int} {o : MO} (k : DrO c o) (h1 : 1 ≤ m) (h2 : m ≤ 30) :
    rd__law_token_5 sp__law_draw sp__law_pick (endN Q) [some (.ref a), x, some (.str ck_LETTERS), some (.int m), none] (up h a o) := by
  unfold rd__law_token_5
  walk_at "ev"
  obtain ⟨n, rfl⟩ := Int.eq_ofNat_of_zero_le (show 0 ≤ m by omega)
  have len : (rgD 0 ((n : Int)).toNat).length = n := by unfold rgD; rw [List.length_map, List.length_range]; rfl
  refine ⟨⟨_, rfl⟩, ⟨by omega, by omega⟩, lcT_draws (d.up k) (fun y => ∃ c, Lt c = true ∧ y = .str ⟨#[c]⟩) (by rw [len]; exact Nat.le_trans (show n ≤ 30 by omega) (by decide)) ?_ ?_⟩
  · intro i y o' Q' hy k' q'
    walk_at "ev"
    refine ⟨a, c, cs, _, _, rfl, (d.up k).up k', rfl, (by intro z; cases z), by decide +kernel, by decide +kernel, fun z o2 hz k2 => ?_⟩
    obtain ⟨cc, hc, rfl⟩ := signs_mem hz
    rw [up_up]
    exact q' _ _ ⟨cc, decide_eq_true hc, rfl⟩ k2
  · intro acc o' p hl hP k' np
    obtain ⟨w, rfl, hw, hwl⟩ := letters_of acc hP
    walk_at "ev"
    rw [up_same]
    walk_at "ev"
    rw [len] at hl
    have hn : w.length = n := by rw [hwl, hl]
    refine join_ok (by rw [flat_one]; omega) ?_
    rw [flat_one]
    rw [up_up] at np ⊢
    have tw : IsTok Lt w := by
      cases w with
      | nil => simp at hn; omega
      | cons c r => exact .run c r hw
    obtain ⟨h0, l0, q0⟩ := q w o' tw (by omega) k'
    exact ⟨h0, l0.trans (le.up np), q0⟩
theorem sat__law_token : ∀ ds h Q, sp__law_token ds h Q → rd__law_token sp__law_draw sp__law_pick (endN Q) (startD 5 ds) h := by
  rintro ds h Q ⟨a, c, cs, rfl, d, q⟩
  show rd__law_token sp__law_draw sp__law_pick (endN Q) [some (.ref a), none, none, none, none] h
  unfold rd__law_token
  walk_at "ev"
  refine ⟨a, c, cs, _, rfl, by decide, by decide, d, fun r o _ _ k => ?_⟩
  unfold rd__law_token_1
  walk_at "ev"
  split
  · rw [s_le]
    exact lh_of (q [60, 61] o .le (by decide) k)
  · unfold rd__law_token_2
    walk_at "ev"
    split
    · refine ⟨a, c, cs, _, _, rfl, d.up k, rfl, (by intro z; cases z), by decide +kernel, by decide +kernel, fun z o2 hz k2 => ?_⟩
      obtain ⟨cc, hc, rfl⟩ := signs_mem hz
      rw [up_up]
      have hh : ∀ c ∈ sgn.cps.toList, Lt c = false ∧ blank c = false := by decide +kernel
      exact lh_of (q [cc] o2 (.one cc (hh cc hc).1 (hh cc hc).2) (by simp) k2)
    · unfold rd__law_token_3
      walk_at "ev"
      unfold rd__law_token_4
      walk_at "ev"
      refine ⟨a, c, cs, _, rfl, by decide, by decide, d.up k, fun r2 o2 _ _ k2 => ?_⟩
      rw [up_up]
      walk_at "ev"
      split
      · refine ⟨a, c, cs, _, rfl, by decide, by decide, d.up k2, fun r3 o3 _ _ k3 => ?_⟩
        rw [up_up]
        walk_at "ev"
        exact tok_5 d (fun w o a b c => lh_of (q w o a b c)) k3 (by omega) (by omega)
      · refine ⟨by show 3 ≤ sizeLine; decide, fun p np => ?_⟩
        have dd := d.up k2
        obtain ⟨u, eu, _⟩ := dd.st
        have npa : a ≠ p := nef eu np
        refine ⟨a, c, cs, _, _, rfl, dd.new np, by show seqO _ = _; rw [up_same]; rfl, (by intro z; cases z; exact npa rfl), by simp, by decide, fun z o3 hz k3 => ?_⟩
        have hm : ∃ m : Int, z = .int m ∧ 1 ≤ m ∧ m ≤ 30 := by
          simp only [List.mem_cons, List.not_mem_nil, or_false] at hz
          rcases hz with rfl | rfl | rfl
          · exact ⟨8, rfl, by decide, by decide⟩
          · exact ⟨9, rfl, by decide, by decide⟩
          · exact ⟨30, rfl, by decide, by decide⟩
        obtain ⟨m, rfl, m1, m2⟩ := hm
        -- the row of numbers stays behind
        have np' : h p = none := by rw [up_ne (fun z => npa z.symm)] at np; exact np
        have dh : Dr a c cs (up h p (.lst [.int 8, .int 9, .int 30])) := d.new np'
        have q' : ∀ w o, IsTok Lt w → w.length ≤ 30 → DrO c o → Lh Q (W w) (up (up h p (.lst [.int 8, .int 9, .int 30])) a o) := fun w o hw hl k => ⟨up h a o, le.up2 (le.up np'), q w o hw hl k⟩
        have key := tok_5 dh q' (x := some (.int r)) k3 m1 m2
        rw [up_com npa, up_up]
        exact key
end DL
namespace DL
open PySem PySem.Spec PyProof.Rows L2 K07
local macro_rules | `(tactic| walk_at "ev") => `(tactic| try simp only [e_seq, e_next, e_brk, e_cnt, e_drop, e_ret, e_retN, e_ifS, e_asg, e_gN, e_gSb, e_gTp, e_gCn, e_gNl, e_var, e_varK, e_nth0, e_nthS, e_put0, e_putS, e_c, e_op, e_un, e_call, e_nil, e_cons, e_tup, e_lst, e_test, e_asB, e_tru, e_andT, e_orT, e_notT, e_andV, e_orV, e_notV, e_if, e_aug, e_augS, e_sl, e_part, e_partK, e_noPart, e_bm0, e_bm, e_join, e_yes, e_wipe0, e_wipeS, e_lc, e_for, v_add, v_addS, v_addT, v_iadd, v_sub, v_mul, v_fdiv, v_mod, v_pow, v_shl, v_shr, v_neg, v_lt, v_le, v_gt, v_ge, v_eqI, v_neI, v_eqS, v_neS, v_inS, v_ninS, v_inT, v_ninT, v_inR, v_ninR, v_inSeq, v_seqO, v_seqR, v_seqT, v_seqL, v_ixR, v_ixT, v_ixL, v_ixS, v_at, v_atK, v_atS, v_atSK, v_get, v_getL, v_getK, v_set, v_setL, v_setK, v_on1, v_on2, v_lenR, v_lenT, v_lenL, v_lenS, v_seqK, v_tuple, v_list, v_abs, v_intI, v_intB, v_okL, v_isLst, v_app, v_lstK, v_slS, v_slT, v_join, v_is, v_isnot, v_max, v_min, v_iSeq, v_srcT, v_srcL, v_srcS, v_srcR, v_srcO, v_iRg1, v_rg1, v_truN, v_truB, v_truI, v_truS, v_truR, v_truT, v_truRol, v_truL])
/-! ### glued -/
theorem le.upx {h h' : MH} {a : Addr} {o : MO} (w : ∀ b u, b ≠ a → h b = some u → h' b = some u) : le (DL.up h a o) (DL.up h' a o) := fun b u e => by
  by_cases z : b = a
  · subst z; rw [up_same] at e ⊢; exact e
  · rw [up_ne z] at e ⊢; exact w b u z e
def sp__law_glued : P1 := fun ds h Q => ∃ a c cs l ps, ds = [.ref a, .ref l] ∧ Dr a c cs h ∧ h l = some (.lst (Ws ps)) ∧ l ≠ a ∧ (∀ p ∈ ps, IsTok Lt p ∧ p.length ≤ 30) ∧ ps.length ≤ 60 ∧ ∀ z o, tks z = ps → z.length ≤ 10000 → DrO c o → Q (.str z) (up h a o)
theorem len__law_glued : ∀ ds h Q, sp__law_glued ds h Q → ds.length = 2 := fun ds h Q ⟨a, c, cs, l, ps, e, _⟩ => by rw [e]; rfl
theorem gaps_snoc : ∀ (gs : List (List Nat × List Nat)) (last pv g p : List Nat), Gaps Lt last gs → pv = ((gs.getLast?).map (·.2)).getD last → (∀ c ∈ g, blank c = true ∧ Lt c = false) → IsTok Lt p → (g = [] → Apart Lt pv p) → Gaps Lt last (gs ++ [(g, p)])
  | [], last, pv, g, p, _, e, h1, h2, h3 => ⟨h1, h2, fun z => by rw [show last = pv from e.symm]; exact h3 z, trivial⟩
  | (g0, p0) :: r, last, pv, g, p, ⟨a, b, c, d⟩, e, h1, h2, h3 => ⟨a, b, c, gaps_snoc r p0 pv g p d (by
      rw [e]
      cases r with
      | nil => rfl
      | cons x r => rw [List.getLast?_cons_cons]; rw [List.getLast?_eq_getLast (by simp)]; rfl) h1 h2 h3⟩
def Bl (g : List Nat) : Prop := (∀ c ∈ g, blank c = true ∧ Lt c = false) ∧ g.length ≤ 3
theorem bl_nil : Bl [] := ⟨by simp, by decide⟩
theorem bl_mem {g : List Nat} (h : g ∈ [[], [32], [10], [32, 32], [32, 10, 10]]) : Bl g := by
  simp only [List.mem_cons, List.not_mem_nil, or_false] at h
  have k : blank 32 = true ∧ Lt 32 = false ∧ blank 10 = true ∧ Lt 10 = false := by decide +kernel
  rcases h with rfl | rfl | rfl | rfl | rfl <;> refine ⟨?_, by decide⟩ <;> intro c hc <;> simp only [List.mem_cons, List.not_mem_nil, or_false] at hc <;> (try rcases hc with rfl | rfl | rfl) <;> (try rcases hc with rfl | rfl) <;> (try subst hc) <;> first | exact ⟨k.1, k.2.1⟩ | exact ⟨k.2.2.1, k.2.2.2⟩ | exact hc.elim
theorem e_s0 : Str.ofString "" = ⟨([] : List Nat).toArray⟩ := rfl
theorem e_s1 : Str.ofString " " = ⟨[32].toArray⟩ := by rfl
theorem e_s2 : Str.ofString "\n" = ⟨[10].toArray⟩ := by rfl
theorem e_s3 : Str.ofString "  " = ⟨[32, 32].toArray⟩ := by rfl
theorem e_s4 : Str.ofString " \n\n" = ⟨[32, 10, 10].toArray⟩ := by rfl
/-- a gap that is picked -/
theorem bl_pick {x : D} (h : x ∈ [D.str (Str.ofString ""), D.str (Str.ofString ""), D.str (Str.ofString " "), D.str (Str.ofString "\n"), D.str (Str.ofString "  "), D.str (Str.ofString " \n\n")]) : ∃ g, x = W g ∧ Bl g := by
  rw [e_s0, e_s1, e_s2, e_s3, e_s4] at h
  simp only [List.mem_cons, List.not_mem_nil, or_false] at h
  rcases h with rfl | rfl | rfl | rfl | rfl | rfl
  · exact ⟨[], rfl, bl_nil⟩
  · exact ⟨[], rfl, bl_nil⟩
  · exact ⟨[32], rfl, bl_mem (by decide)⟩
  · exact ⟨[10], rfl, bl_mem (by decide)⟩
  · exact ⟨[32, 32], rfl, bl_mem (by decide)⟩
  · exact ⟨[32, 10, 10], rfl, bl_mem (by decide)⟩
structure GS (ps : List (List Nat)) (i : Nat) (F : List (List Nat)) (pv : List Nat) (lc : Nat) (g0 : List Nat) (gs : List (List Nat × List Nat)) : Prop where
  f : F = g0 :: gs.map fun q => q.1 ++ q.2
  b : Bl g0
  s : gs.map (·.2) = ps.take i
  g : Gaps Lt [32] gs
  v : pv = ((gs.getLast?).map (·.2)).getD [32]
  l : pv.getLast? = some lc
  n : ∀ q ∈ gs, q.1.length ≤ 3
def gluI (a l fl : Addr) (c : Addr) (h : MH) (ps : List (List Nat)) (i : Nat) : Sl → MH → Prop := fun σ hh => ∃ o F pv lc g0 gs, GS ps i F pv lc g0 gs ∧ DrO c o ∧ σ = [some (.ref a), some (.ref l), some (.str ck_LETTERS), some (.ref fl), some (.str ⟨#[lc]⟩), none, none] ∧ hh = up (up h a o) fl (.lst (Ws F))
theorem atI_last1 {p : List Nat} {lc : Nat} (h : p.getLast? = some lc) : atI p (-1) = some lc := atI_neg h
theorem W_cps (p : List Nat) : (⟨p.toArray⟩ : Str).cps.toList = p := rfl
theorem app_W (g p : List Nat) : ((⟨g.toArray⟩ : Str) ++ ⟨p.toArray⟩) = ⟨(g ++ p).toArray⟩ := by
  show (⟨g.toArray ++ p.toArray⟩ : Str) = _
  congr 1; simp
theorem len_W (g : List Nat) : (⟨g.toArray⟩ : Str).length = g.length := by show g.toArray.size = _; rw [List.size_toArray]
theorem GS.next {ps : List (List Nat)} {i : Nat} {F : List (List Nat)} {pv : List Nat} {lc : Nat} {g0 : List Nat} {gs : List (List Nat × List Nat)} (S : GS ps i F pv lc g0 gs) {g p : List Nat} {lc2 : Nat} (hi : i < ps.length) (hp : ps[i] = p) (t : IsTok Lt p) (hg : Bl g) (ha : g = [] → Apart Lt pv p) (hl : p.getLast? = some lc2) : GS ps (i + 1) (F ++ [g ++ p]) p lc2 g0 (gs ++ [(g, p)]) where
  f := by rw [S.f, List.map_append]; rfl
  b := S.b
  s := by rw [List.map_append, S.s, List.take_succ_eq_append_getElem hi, hp]; rfl
  g := gaps_snoc gs [32] pv g p S.g S.v hg.1 t ha
  v := by rw [List.getLast?_concat]; rfl
  l := hl
  n := fun q hq => by
    rcases List.mem_append.mp hq with hq | hq
    · exact S.n q hq
    · rw [List.mem_singleton.mp hq]; exact hg.2
theorem sat__law_glued : ∀ ds h Q, sp__law_glued ds h Q → rd__law_glued sp__law_pick (endN Q) (startD 7 ds) h := by
  rintro ds h Q ⟨a, c, cs, l, ps, rfl, d, hl, hla, hps, hpl, q⟩
  show rd__law_glued sp__law_pick (endN Q) [some (.ref a), some (.ref l), none, none, none, none, none] h
  unfold rd__law_glued
  walk_at "ev"
  unfold rd__law_glued_1
  walk_at "ev"
  refine ⟨by show 4 ≤ sizeLine; decide, fun r nr => ?_⟩
  obtain ⟨u, eu, _⟩ := id d.st
  have nra : a ≠ r := nef eu nr
  have nlr : l ≠ r := nef hl nr
  refine ⟨a, c, cs, _, _, rfl, d.new nr, by show seqO _ = _; rw [up_same]; rfl, (by intro z; cases z; exact nra rfl), by simp, by decide, fun x o hx k => ?_⟩
  obtain ⟨g0, rfl, hg0⟩ := bl_pick (x := x) (by simp only [List.mem_cons] at hx ⊢; rcases hx with h | h | h | h | h <;> simp_all)
  walk_at "ev"
  refine ⟨by show 1 ≤ sizeLine; decide, fun fl nfl => ?_⟩
  have nfa : a ≠ fl := nef up_same nfl
  have hl1 : up (up h r (.lst [.str (Str.ofString ""), .str (Str.ofString ""), .str (Str.ofString " "), .str (Str.ofString "\n")])) a o l = some (.lst (Ws ps)) := by rw [up_ne hla, up_ne nlr]; exact hl
  have nfl' : l ≠ fl := nef hl1 nfl
  have hf : h fl = none := by
    rw [up_ne (fun z => nfa z.symm)] at nfl
    cases e : h fl with
    | none => rfl
    | some v =>
      rw [up_ne (nef e nr)] at nfl
      rw [e] at nfl; cases nfl
  unfold rd__law_glued_2
  walk_at "ev"
  unfold rd__law_glued_3
  walk_at "ev"
  rw [up_ne nfl', hl1]
  walk_at "ev"
  refine ⟨gluI a l fl c h ps, ⟨_, _, leS.refl, ?_, o, [g0], [32], 32, g0, [], ⟨rfl, hg0, rfl, trivial, rfl, rfl, by simp⟩, k, rfl, rfl⟩, ?_, ?_, ?_⟩
  · exact le.up2 (le.upx fun b u _ e => by rw [up_ne (nef e nr)]; exact e)
  · rintro i σ hh ⟨o, F, pv, lc, g0, gs, S, k, rfl, rfl⟩
    show up (up h a o) fl _ l = _
    rw [up_ne nfl', up_ne hla]; exact hl
  · rintro i x σ hh hx ⟨o, F, pv, lc, g0, gs, S, k, rfl, rfl⟩
    unfold Ws at hx
    rw [List.getElem?_map] at hx
    obtain ⟨p, hp, rfl⟩ := Option.map_eq_some_iff.mp hx
    obtain ⟨hi, ep⟩ := List.getElem?_eq_some_iff.mp hp
    obtain ⟨tp, lp⟩ := hps p (List.mem_of_getElem? hp)
    obtain ⟨p0, pr, epc⟩ := istok_ne Lt tp
    have hlast : ∃ lc2, p.getLast? = some lc2 := ⟨p.getLast (by rw [epc]; simp), List.getLast?_eq_getLast _⟩
    obtain ⟨lc2, hlc2⟩ := hlast
    have hF60 : F.length ≤ 61 := by
      rw [S.f, List.length_cons, List.length_map]
      have := congrArg List.length S.s
      rw [List.length_map, List.length_take] at this; omega
    walk_at "ev"
    unfold rd__law_glued_b1
    walk_at "ev"
    refine ⟨by show 6 ≤ sizeLine; decide, fun r nr => ?_⟩
    have df : Dr a c cs (up (up h a o) fl (.lst (Ws F))) := (d.up k).put nfa (nef d.ce hf)
    obtain ⟨u, eu, _⟩ := id df.st
    have nra : a ≠ r := nef eu nr
    have nrf : fl ≠ r := nef up_same nr
    refine ⟨a, c, cs, _, _, rfl, df.new nr, by show seqO _ = _; rw [up_same]; rfl, (by intro z; cases z; exact nra rfl), by simp, by decide, fun x o2 hx k2 => ?_⟩
    obtain ⟨g, rfl, hg⟩ := bl_pick hx
    -- the heap behind the pick, seen without the row
    have hle : le (up (up h a o2) fl (.lst (Ws F))) (up (up (up (up h a o) fl (.lst (Ws F))) r (.lst [.str (Str.ofString ""), .str (Str.ofString ""), .str (Str.ofString " "), .str (Str.ofString "\n"), .str (Str.ofString "  "), .str (Str.ofString " \n\n")])) a o2) := by
      intro b v e
      by_cases b1 : b = fl
      · subst b1
        rw [up_same] at e
        rw [up_ne (fun z => nfa z.symm), up_ne nrf, up_same]; exact e
      · rw [up_ne b1] at e
        by_cases b2 : b = a
        · subst b2; rw [up_same] at e ⊢; exact e
        · rw [up_ne b2] at e ⊢
          have hb : up (up h a o) fl (.lst (Ws F)) b = some v := by rw [up_ne b1, up_ne b2]; exact e
          rw [up_ne (nef hb nr)]; exact hb
    generalize hH : (up (up (up (up h a o) fl (.lst (Ws F))) r (.lst [.str (Str.ofString ""), .str (Str.ofString ""), .str (Str.ofString " "), .str (Str.ofString "\n"), .str (Str.ofString "  "), .str (Str.ofString " \n\n")])) a o2) = H2 at hle
    have hfl2 : H2 fl = some (.lst (Ws F)) := hle fl _ up_same
    -- from the gap on
    have go : ∀ (N : Nd) (g' : List Nat), (∀ σ' h', Lw (gluI a l fl c h ps (i + 1)) σ' h' → N.nx σ' h') → Bl g' → (g' = [] → Apart Lt pv p) →
        rd__law_glued_b1_2 sp__law_pick N [some (.ref a), some (.ref l), some (.str ck_LETTERS), some (.ref fl), some (.str ⟨#[lc]⟩), some (W p), some (W g')] H2 := fun N g' hN hg' hap => by
      unfold rd__law_glued_b1_2 rd__law_glued_b1_3 W
      walk_at "ev"
      rw [hfl2]
      walk_at "ev"
      refine ⟨trivial, ?_, ?_, ?_⟩
      · rw [len_W, len_W]; have := hg'.2; exact Nat.le_trans (show g'.length + p.length ≤ 33 by omega) (by decide)
      · unfold Ws; rw [List.length_map]; exact lt_size (by omega)
      · rw [atI_last1 hlc2]
        walk_at "ev"
        rw [app_W]
        refine hN _ _ ⟨_, _, leS.cons (leS.cons (leS.cons (leS.cons (leS.cons (leS.skip (leS.skip leS.nil)))))), ?_, o2, F ++ [g' ++ p], p, lc2, g0, gs ++ [(g', p)], S.next hi ep tp hg' hap hlc2, k2, rfl, rfl⟩
        rw [ofW]
        have e1 : up (up h a o2) fl (.lst (Ws F ++ [W (g' ++ p)])) = up (up (up h a o2) fl (.lst (Ws F))) fl (.lst (Ws F ++ [W (g' ++ p)])) := by rw [up_up]
        rw [e1]
        exact le.up2 hle
    unfold rd__law_glued_b1_1
    unfold W
    walk_at "ev"
    have e61 : ∀ z : Nat, ([z] = [61]) = (z = 61) := fun z => by simp
    have e60 : ∀ z : Nat, ([z] = [60]) = (z = 60) := fun z => by simp
    simp only [e_s0, str_ext, epc, atI_z, v_atSK, v_inS, v_eqS, e_asB, inS_L, s_eq, s_lt, cps_one, decide_eq_true_eq, e60]
    rw [← epc]
    have b32 : Bl [32] := bl_mem (by decide)
    have plain : (g = [] → Apart Lt pv p) → ∀ N : Nd, (∀ σ' h', Lw (gluI a l fl c h ps (i + 1)) σ' h' → N.nx σ' h') → rd__law_glued_b1_2 sp__law_pick N [some (.ref a), some (.ref l), some (.str ck_LETTERS), some (.ref fl), some (.str ⟨#[lc]⟩), some (W p), some (W g)] H2 := fun w N hN => go N g hN hg w
    have wide : ∀ N : Nd, (∀ σ' h', Lw (gluI a l fl c h ps (i + 1)) σ' h' → N.nx σ' h') → rd__law_glued_b1_2 sp__law_pick N [some (.ref a), some (.ref l), some (.str ck_LETTERS), some (.ref fl), some (.str ⟨#[lc]⟩), some (W p), some (.str (Str.ofString " "))] H2 := fun N hN => go N [32] hN b32 (fun z => by cases z)
    have apart1 : (Lt lc = true → Lt p0 = true → False) → (lc = 60 → p0 = 61 → False) → Apart Lt pv p := fun u v => ⟨fun x ex lx y ey => by
      rw [S.l] at ex; cases ex
      rw [epc] at ey; cases ey
      cases e : Lt p0 with
      | false => rfl
      | true => exact (u lx e).elim, fun ex ey => by
      rw [epc] at ey; cases ey
      have := S.l
      rw [ex] at this; cases this
      exact v rfl rfl⟩
    by_cases hg0 : g = []
    · rw [if_pos hg0]
      by_cases h1 : Lt lc = true
      · rw [if_pos h1]
        have n60 : lc ≠ 60 := fun z => by rw [z] at h1; exact absurd h1 (by decide)
        by_cases h2 : Lt p0 = true
        · rw [if_pos h2, if_pos trivial]; exact wide _ fun _ _ x => x
        · rw [if_neg h2, if_neg n60, if_neg Bool.false_ne_true]
          exact plain (fun _ => apart1 (fun _ z => h2 z) fun z _ => n60 z) _ fun _ _ x => x
      · rw [if_neg h1, if_neg Bool.false_ne_true]
        by_cases h3 : lc = 60
        · rw [if_pos h3]
          simp only [e61]
          by_cases h4 : p0 = 61
          · rw [if_pos h4]; exact wide _ fun _ _ x => x
          · rw [if_neg h4]; exact plain (fun _ => apart1 (fun z _ => h1 z) fun _ z => h4 z) _ fun _ _ x => x
        · rw [if_neg h3, if_neg Bool.false_ne_true]
          exact plain (fun _ => apart1 (fun z _ => h1 z) fun z _ => h3 z) _ fun _ _ x => x
    · rw [if_neg hg0, if_neg Bool.false_ne_true]
      exact plain (fun z => (hg0 z).elim) _ fun _ _ x => x
  · rintro σ hh ⟨o, F, pv, lc, g0, gs, S, k, rfl, rfl⟩
    have hlen : (Ws ps).length = ps.length := by unfold Ws; rw [List.length_map]
    rw [hlen] at S
    show rd__law_glued_4 sp__law_pick (endN Q) _ _
    unfold rd__law_glued_4
    walk_at "ev"
    rw [up_same]
    walk_at "ev"
    have hps2 : gs.map (·.2) = ps := by rw [S.s, List.take_length]
    have hfl : F.flatten.length ≤ 3 + 60 * 33 := by
      have : ∀ gs : List (List Nat × List Nat), (∀ q ∈ gs, q.1.length ≤ 3) → (∀ q ∈ gs, q.2.length ≤ 30) → (gs.map fun q => q.1 ++ q.2).flatten.length ≤ gs.length * 33 := fun gs => by
        induction gs with
        | nil => intro _ _; simp
        | cons q r ih =>
          intro u v
          have := ih (fun x hx => u x (by simp [hx])) fun x hx => v x (by simp [hx])
          have u1 := u q (by simp)
          have v1 := v q (by simp)
          rw [List.map_cons, List.flatten_cons, List.length_append, List.length_append, List.length_cons]; omega
      have hl := this gs S.n fun q hq => (hps q.2 (by rw [← hps2]; exact List.mem_map_of_mem hq)).2
      have hn : gs.length ≤ 60 := by rw [← hps2, List.length_map] at hpl; exact hpl
      have b := S.b.2
      rw [S.f, List.flatten_cons, List.length_append]; omega
    refine ⟨⟨_, rfl⟩, join_ok (F := F) (by omega) ?_⟩
    refine ⟨by show 3 ≤ sizeLine; decide, fun r nr => ?_⟩
    have df : Dr a c cs (up (up h a o) fl (.lst (Ws F))) := (d.up k).put nfa (nef d.ce hf)
    obtain ⟨u, eu, _⟩ := id df.st
    have nra : a ≠ r := nef eu nr
    have nrf : fl ≠ r := nef up_same nr
    refine ⟨a, c, cs, _, _, rfl, df.new nr, by show seqO _ = _; rw [up_same]; rfl, (by intro z; cases z; exact nra rfl), by simp, by decide, fun x o2 hx k2 => ?_⟩
    obtain ⟨g, rfl, hg⟩ := bl_pick (x := x) (by simp only [List.mem_cons] at hx ⊢; rcases hx with h | h | h | h <;> simp_all)
    unfold W
    walk_at "ev"
    rw [app_W]
    have lg := hg.2
    refine ⟨by show _ + _ ≤ sizeLine; rw [len_W, len_W]; exact Nat.le_trans (show F.flatten.length + g.length ≤ 2000 by omega) (by decide), ?_⟩
    refine ⟨up h a o2, ?_, q _ o2 ?_ ?_ k2⟩
    · intro b v e
      by_cases b2 : b = a
      · subst b2; rw [up_same] at e ⊢; exact e
      · rw [up_ne b2] at e ⊢
        have b1 : b ≠ fl := nef e hf
        have hb : up (up h a o) fl (.lst (Ws F)) b = some v := by rw [up_ne b1, up_ne b2]; exact e
        rw [up_ne (nef hb nr)]; exact hb
    · unfold tks
      rw [W_cps, S.f]
      show tok Lt .n ((g0 ++ (gs.map fun q => q.1 ++ q.2).flatten) ++ g) = ps
      rw [List.append_assoc, tok_blanks Lt S.b.1]
      show tok Lt .n (glue gs g) = ps
      rw [tok_glue Lt (by decide) gs [32] g S.g hg.1, hps2]
    · rw [len_W, List.length_append]; omega
end DL
namespace DL
open PySem PySem.Spec PyProof.Rows L2 K07
local macro_rules | `(tactic| walk_at "ev") => `(tactic| try simp only [e_seq, e_next, e_brk, e_cnt, e_drop, e_ret, e_retN, e_ifS, e_asg, e_gN, e_gSb, e_gTp, e_gCn, e_gNl, e_var, e_varK, e_nth0, e_nthS, e_put0, e_putS, e_c, e_op, e_un, e_call, e_nil, e_cons, e_tup, e_lst, e_test, e_asB, e_tru, e_andT, e_orT, e_notT, e_andV, e_orV, e_notV, e_if, e_aug, e_augS, e_sl, e_part, e_partK, e_noPart, e_bm0, e_bm, e_join, e_yes, e_wipe0, e_wipeS, e_lc, e_for, v_add, v_addS, v_addT, v_iadd, v_sub, v_mul, v_fdiv, v_mod, v_pow, v_shl, v_shr, v_neg, v_lt, v_le, v_gt, v_ge, v_eqI, v_neI, v_eqS, v_neS, v_inS, v_ninS, v_inT, v_ninT, v_inR, v_ninR, v_inSeq, v_seqO, v_seqR, v_seqT, v_seqL, v_ixR, v_ixT, v_ixL, v_ixS, v_at, v_atK, v_atS, v_atSK, v_get, v_getL, v_getK, v_set, v_setL, v_setK, v_on1, v_on2, v_lenR, v_lenT, v_lenL, v_lenS, v_seqK, v_tuple, v_list, v_abs, v_intI, v_intB, v_okL, v_isLst, v_app, v_lstK, v_slS, v_slT, v_join, v_is, v_isnot, v_max, v_min, v_iSeq, v_srcT, v_srcL, v_srcS, v_srcR, v_srcO, v_iRg1, v_rg1, v_truN, v_truB, v_truI, v_truS, v_truR, v_truT, v_truRol, v_truL])
/-! ### the law -/
theorem len_law : ∀ ds h Q, spLaw ds h Q → ds.length = 1 := fun ds h Q ⟨ns, e, _⟩ => by rw [e]; rfl
theorem toks_of : ∀ (acc : List D), (∀ y ∈ acc, ∃ w, IsTok Lt w ∧ w.length ≤ 30 ∧ y = W w) → ∃ ps : List (List Nat), acc = Ws ps ∧ ∀ p ∈ ps, IsTok Lt p ∧ p.length ≤ 30
  | [], _ => ⟨[], rfl, by simp⟩
  | x :: r, h => by
    obtain ⟨ps, e, hp⟩ := toks_of r fun y hy => h y (by simp [hy])
    obtain ⟨w, t, l, rfl⟩ := h x (by simp)
    refine ⟨w :: ps, by rw [e]; rfl, fun p hp' => ?_⟩
    rcases List.mem_cons.mp hp' with rfl | hp'
    · exact ⟨t, l⟩
    · exact hp p hp'
theorem one_of : ∀ (acc : List D), (∀ y ∈ acc, ∃ c : Nat, y = .str ⟨#[c]⟩) → ∃ w : List Nat, acc = Ws (w.map fun c => [c]) ∧ w.length = acc.length
  | [], _ => ⟨[], rfl, rfl⟩
  | x :: r, h => by
    obtain ⟨w, e, hl⟩ := one_of r fun y hy => h y (by simp [hy])
    obtain ⟨c, rfl⟩ := h x (by simp)
    exact ⟨c :: w, by rw [e]; rfl, by simp [hl]⟩
def L3 (z1 z2 : Str) (p q : Addr) : List D := [.tup [.str z1, .ref p], .tup [.str z2, .ref q], .tup [.str z1, .ref p]]
/-- one of the three -/
def One (h : MH) (x : D) : Prop := ∃ z l, x = .tup [.str z, .ref l] ∧ z.length ≤ 10000 ∧ h l = some (.lst (Ws (tks z)))
def lawI (a p q r : Addr) (z1 z2 : Str) : Nat → Sl → MH → Prop := fun _ σ h => h r = some (.lst (L3 z1 z2 p q)) ∧ (∀ x ∈ L3 z1 z2 p q, One h x) ∧ ∃ s x5 x6 x7, σ = [s, some (.ref a), some (.ref p), some (.str z1), some (.str z2), x5, x6, x7, none, none]
mutual
theorem eqv_pd : ∀ (n : Nat) (d : D), pure? n d = true → PyData.eqv (pd d) (pd d) = true
  | _, .none, _ => by simp [pd, PyData.eqv]
  | _, .bool b, _ => by simp [pd, PyData.eqv]
  | _, .int i, _ => by simp [pd, PyData.eqv]
  | _, .str x, _ => by simp [pd, PyData.eqv]
  | 0, .tup ds, h => by simp [pure?] at h
  | n + 1, .tup ds, h => by
    have h' : pures? n ds = true := by simpa [pure?] using h
    simp only [pd, PyData.eqv]; exact eqvs_pd n ds h'
  | 0, .rol ds, h => by simp [pure?] at h
  | n + 1, .rol ds, h => by
    have h' : pures? n ds = true := by simpa [pure?] using h
    simp only [pd, PyData.eqv]; exact eqvs_pd n ds h'
  | n, .ref _, h => by simp [pure?] at h
  | n, .ty _, h => by simp [pure?] at h
theorem eqvs_pd : ∀ (n : Nat) (ds : List D), pures? n ds = true → PyData.eqvAll (pds ds) (pds ds) = true
  | n, [], _ => by simp [pds, PyData.eqvAll]
  | n, d :: ds, h => by
    have h' : pure? n d = true ∧ pures? n ds = true := by simpa [pures?] using h
    simp only [pds, PyData.eqvAll, eqv_pd n d h'.1, eqvs_pd n ds h'.2]; rfl
end
/-- a tuple of pure values is itself -/
theorem v_neT {h : MH} {Q : KD} {ds : List D} (p : pure? 60 (.tup ds) = true) (q : Q (.bool false) h) : neD (.tup ds) (.tup ds) h Q := by
  have e : view h (.tup ds) = some (pd (.tup ds)) := by show viewP _ = _; unfold viewP; rw [if_pos p]
  unfold neD
  rw [e]
  show Q (.bool (!PyData.eqv _ _)) h
  rw [eqv_pd 60 _ p]; exact q
theorem pure_Ws (n : Nat) (F : List (List Nat)) : pures? n (Ws F) = true := by
  rw [pures_all]
  unfold Ws
  rw [List.all_map]
  rw [List.all_eq_true]; intro w _; show pure? n (.str _) = true; simp [pure?]
theorem pure_WsT (F : List (List Nat)) : pure? 60 (.tup (Ws F)) = true := by
  show pure? (59 + 1) _ = true
  unfold pure?; exact pure_Ws 59 F
theorem tok_len : ∀ (l : List Nat) (w : List Nat), (tok Lt .n l).length ≤ l.length ∧ (tok Lt (.run w) l).length ≤ l.length + 1 ∧ (tok Lt .lt l).length ≤ l.length + 1
  | [], w => by simp [tok]
  | c :: r, w => by
    have i1 := tok_len r [c]
    have i2 := tok_len r (w ++ [c])
    have n : (if Lt c then tok Lt (.run [c]) r else if c = 60 then tok Lt .lt r else if blank c then tok Lt .n r else [c] :: tok Lt .n r).length ≤ r.length + 1 := by
      by_cases h1 : Lt c = true
      · rw [if_pos h1]; exact i1.2.1
      · rw [if_neg h1]
        by_cases h2 : c = 60
        · rw [if_pos h2]; exact i1.2.2
        · rw [if_neg h2]
          by_cases h3 : blank c = true
          · rw [if_pos h3]; exact Nat.le_succ_of_le i1.1
          · rw [if_neg h3, List.length_cons]; exact Nat.succ_le_succ i1.1
    refine ⟨n, ?_, ?_⟩
    · rw [tok]
      by_cases h1 : Lt c = true
      · rw [if_pos h1]; exact Nat.le_succ_of_le i2.2.1
      · rw [if_neg h1, List.length_cons]
        rw [if_neg h1] at n
        exact Nat.succ_le_succ n
    · rw [tok]
      by_cases h1 : c = 61
      · rw [if_pos h1, List.length_cons]; exact Nat.succ_le_succ (Nat.le_succ_of_le i1.1)
      · rw [if_neg h1, List.length_cons]; exact Nat.succ_le_succ n
theorem tks_len (z : Str) : (tks z).length ≤ z.length := by
  have e : z.cps.toList.length = z.length := Array.length_toList
  have := (tok_len z.cps.toList []).1
  rw [e] at this; exact this
theorem is1 {ds : List D} {h : MH} {Q : KD} (q : Q (.bool true) h) : isiD (.tup ds) (.ty "tuple") h Q := q
theorem is2 {w : List Nat} {h : MH} {Q : KD} (q : Q (.bool true) h) : isiD (W w) (.ty "str") h Q := q
theorem law_b {sb sd st sg sp sc : P1} {N : Nd} {s0 s1 s2 s3 s4 x7 : Option D} {z : Str} {l : Addr} {hh : MH} (hl : hh l = some (.lst (Ws (tks z)))) (lz : z.length ≤ 10000)
    (q : ∀ pp, hh pp = none → N.nx [s0, s1, s2, s3, s4, some (.str z), some (.ref l), some (.tup (Ws (tks z))), none, none] (up hh pp (.lst (((tks z).map (fun _ => true)).map D.bool)))) :
    rd_law_b1 sb sd st sg sp sc sp_tokens_of N [s0, s1, s2, s3, s4, some (.str z), some (.ref l), x7, none, none] hh := by
  unfold rd_law_b1
  walk_at "ev"
  refine ⟨z, rfl, lz, ?_⟩
  have n1 : (tks z).length ≤ 10000 := Nat.le_trans (tks_len z) lz
  unfold rd_law_b1_1
  walk_at "ev"
  refine is1 ?_
  walk_at "ev"
  rw [if_neg (by decide)]
  refine lcT_map (fun _ => .bool true) (by unfold Ws; rw [List.length_map]; exact Nat.le_trans n1 (by decide)) trivial ?_ ?_
  · intro x hx Q' q'
    obtain ⟨w, _, rfl⟩ := List.mem_map.mp hx
    walk_at "ev"
    exact is2 q'
  · intro pp npp
    have e : (Ws (tks z)).map (fun _ => D.bool true) = ((tks z).map fun _ => true).map D.bool := by unfold Ws; rw [List.map_map, List.map_map]; rfl
    rw [e]
    refine v_all up_same (blsOf_map _) ?_
    have e2 : ((tks z).map fun _ => true).all id = true := by rw [List.all_map, List.all_eq_true]; intro _ _; rfl
    rw [e2]
    walk_at "ev"
    rw [if_neg (by decide)]
    unfold rd_law_b1_2
    walk_at "ev"
    have nlp : l ≠ pp := nef hl npp
    rw [up_ne nlp, hl]
    walk_at "ev"
    refine v_neT (pure_WsT _) ?_
    walk_at "ev"
    rw [if_neg (by decide)]
    exact q pp npp
theorem law_4 {sb sd st sg sp sc : P1} {N : Nd} {s : Option D} {a p : Addr} {z1 z2 : Str} {h : MH} (hsc : sc = sp__law_cut) (h1 : h p = some (.lst (Ws (tks z1)))) (l1 : z1.length ≤ 10000) (l2 : z2.length ≤ 10000) (q : ∀ h, N.rt (.bool true) h) :
    rd_law_4 sb sd st sg sp sc sp_tokens_of N [s, some (.ref a), some (.ref p), some (.str z1), some (.str z2), none, none, none, none, none] h := by
  subst hsc
  unfold rd_law_4
  walk_at "ev"
  refine ⟨by show 2 ≤ sizeLine; decide, z2, rfl, l2, fun qq nq => ⟨by show 2 ≤ sizeLine; decide, by show 2 ≤ sizeLine; decide, by show 3 ≤ sizeLine; decide, fun r nr => ?_⟩⟩
  have npq : p ≠ qq := nef h1 nq
  have nqr : qq ≠ r := nef up_same nr
  have npr : p ≠ r := nef (by rw [up_ne npq]; exact h1) nr
  rw [up_same]
  walk_at "ev"
  refine ⟨lawI a p qq r z1 z2, Lw.of ⟨up_same, ?_, s, none, none, none, rfl⟩, fun i σ h e => e.1, ?_, ?_⟩
  · intro x hx
    simp only [L3, List.mem_cons, List.not_mem_nil, or_false] at hx
    rcases hx with rfl | rfl | rfl
    · exact ⟨z1, p, rfl, l1, by rw [up_ne npr, up_ne npq]; exact h1⟩
    · exact ⟨z2, qq, rfl, l2, by rw [up_ne nqr, up_same]⟩
    · exact ⟨z1, p, rfl, l1, by rw [up_ne npr, up_ne npq]; exact h1⟩
  · rintro i x σ hh hx ⟨hr, ho, s, x5, x6, x7, rfl⟩
    obtain ⟨z, l, rfl, lz, hl⟩ := ho x (List.mem_of_getElem? hx)
    walk_at "ev"
    refine ⟨rfl, ?_⟩
    exact law_b hl lz fun pp npp => Lw.of ⟨by rw [up_ne (nef hr npp)]; exact hr, fun x hx => by
        obtain ⟨z', l', rfl, lz', hl'⟩ := ho x hx
        exact ⟨z', l', rfl, lz', by rw [up_ne (nef hl' npp)]; exact hl'⟩, s, _, _, _, rfl⟩
  · rintro σ hh ⟨hr, ho, s, x5, x6, x7, rfl⟩
    dsimp only
    walk_at "ev"
    unfold rd_law_5
    walk_at "ev"
    exact q _
theorem sat_law : ∀ ds h Q, spLaw ds h Q → rd_law sp__law_begin sp__law_draw sp__law_token sp__law_glued sp__law_pick sp__law_cut sp_tokens_of (endN Q) (startD 10 ds) h := by
  rintro ds h Q ⟨ns, rfl, hl, q⟩
  show rd_law sp__law_begin sp__law_draw sp__law_token sp__law_glued sp__law_pick sp__law_cut sp_tokens_of (endN Q) [some (.rol (ns.map D.int)), none, none, none, none, none, none, none, none, none] h
  unfold rd_law
  walk_at "ev"
  refine ⟨ns, rfl, hl, fun a c o na nc nac k => ?_⟩
  generalize hB : up h c (.lst (ns.map D.int)) = B
  have d : Dr a c ns (up B a o) := ⟨⟨o, up_same, k⟩, by rw [up_ne (fun z => nac z.symm), ← hB, up_same]⟩
  have main : ∀ (m : Int) (o : MO), 0 ≤ m → m ≤ 60 → DrO c o → lcT (rgD 0 (Int.toNat m)) (fun x => True) (gN 8) dYes (dCall sp__law_token (dCons (dVar 1) dNil)) [8]
              [some (D.rol (List.map D.int ns)), some (D.ref a), none, none, none, none, none, none, none, none]
              (fun x h1 =>
                rd_law_2 sp__law_begin sp__law_draw sp__law_token sp__law_glued sp__law_pick sp__law_cut sp_tokens_of
                  (endN Q)
                  [some (D.rol (List.map D.int ns)), some (D.ref a), some x, none, none, none, none, none, none, none]
                  h1)
              (up B a o) := fun m o m0 m1 k => by
    obtain ⟨n, rfl⟩ := Int.eq_ofNat_of_zero_le m0
    have len : (rgD 0 ((n : Int)).toNat).length = n := by unfold rgD; rw [List.length_map, List.length_range]; rfl
    have d := d.up k
    rw [up_up] at d
    refine lcT_draws d (fun y => ∃ w, IsTok Lt w ∧ w.length ≤ 30 ∧ y = W w) (by rw [len]; exact Nat.le_trans (show n ≤ 60 by omega) (by decide)) ?_ ?_
    · intro i y o' Q' hy k' q'
      walk_at "ev"
      refine ⟨a, c, ns, rfl, d.up k', fun w o2 t l k2 => ?_⟩
      rw [up_up]
      exact q' _ _ ⟨w, t, l, rfl⟩ k2
    · intro acc o' p hlen hP k' np
      obtain ⟨ps, rfl, hps⟩ := toks_of acc hP
      have nap : a ≠ p := nef up_same np
      unfold rd_law_2
      walk_at "ev"
      refine ⟨a, c, ns, p, ps, rfl, (d.up k').new np, up_same, fun z => nap z.symm, hps, ?_, fun z o2 hz lz k2 => ?_⟩
      · have : (Ws ps).length = ps.length := by unfold Ws; rw [List.length_map]
        rw [← this, hlen, len]; omega
      unfold rd_law_3
      walk_at "ev"
      have d2 : Dr a c ns (up (up (up (up B a o) a o') p (.lst (Ws ps))) a o2) := ((d.up k').new np).up k2
      refine ⟨⟨_, rfl⟩, a, c, ns, _, rfl, by decide, by decide, d2, fun r o3 r0 r1 k3 => ?_⟩
      obtain ⟨n2, rfl⟩ := Int.eq_ofNat_of_zero_le r0
      have len2 : (rgD 0 ((n2 : Int)).toNat).length = n2 := by unfold rgD; rw [List.length_map, List.length_range]; rfl
      walk_at "ev"
      refine ⟨⟨by omega, by omega⟩, lcT_draws (d2.up k3) (fun y => ∃ c : Nat, y = .str ⟨#[c]⟩) (by rw [len2]; exact Nat.le_trans (show n2 ≤ 60 by omega) (by decide)) ?_ ?_⟩
      · intro i y o' Q' hy k' q'
        walk_at "ev"
        refine ⟨a, c, ns, _, _, rfl, (d2.up k3).up k', rfl, (by intro z; cases z), by decide +kernel, by decide +kernel, fun z o2 hz k2 => ?_⟩
        obtain ⟨cc, hc, rfl⟩ := signs_mem hz
        rw [up_up]
        exact q' _ _ ⟨cc, rfl⟩ k2
      · intro acc2 o4 p2 hl2 hP2 k4 np2
        obtain ⟨w, rfl, hwl⟩ := one_of acc2 hP2
        walk_at "ev"
        rw [up_same]
        walk_at "ev"
        rw [len2] at hl2
        refine join_ok (by rw [flat_one]; omega) ?_
        rw [flat_one]
        have np2' : p ≠ p2 := nef (u := .lst (Ws ps)) (by rw [up_ne (fun z => nap z.symm), up_ne (fun z => nap z.symm), up_ne (fun z => nap z.symm), up_same]) np2
        refine law_4 rfl (by rw [up_ne np2', up_ne (fun z => nap z.symm), up_ne (fun z => nap z.symm), up_ne (fun z => nap z.symm), up_same, hz]) lz ?_ fun h' => lh_of (q h')
        rw [len_W, hwl, hl2]; omega
  unfold rd_law_1
  walk_at "ev"
  refine ⟨a, c, ns, _, rfl, by decide, by decide, d, fun r o _ _ k => ?_⟩
  rw [up_up]
  walk_at "ev"
  split
  · exact ⟨by decide, main 60 _ (by decide) (by decide) k⟩
  · have d := d.up k
    rw [up_up] at d
    refine ⟨a, c, ns, _, rfl, by decide, by decide, d, fun r o2 r0 r1 k2 => ?_⟩
    rw [up_up]
    walk_at "ev"
    exact ⟨⟨by omega, by omega⟩, main r o2 r0 (by omega) k2⟩
end DL
open PySem PySem.Spec PyProof.Rows L2 DL in
theorem DL.all_mk {l : PySem.W.OpenLaw} {w : World} {K : PySem.W.Frag} {h : Heap} {mg : Str → Option Value} {fa : Addr} (X : K.In h) (G : h.Ns mainGlobals mg) (hfa : mg "law" = some (.ref fa))
    {f0 : Addr} {oc0 kV0 dc0 pm0 cd0 ct0 : Value} {od0 an0 : Option Addr} {sl0 : Array (Option Value)}
    {f1 : Addr} {oc1 kV1 dc1 pm1 cd1 ct1 : Value} {od1 an1 : Option Addr} {sl1 : Array (Option Value)}
    {f2 : Addr} {oc2 kV2 dc2 pm2 cd2 ct2 : Value} {od2 an2 : Option Addr} {sl2 : Array (Option Value)}
    {f3 : Addr} {oc3 kV3 dc3 pm3 cd3 ct3 : Value} {od3 an3 : Option Addr} {sl3 : Array (Option Value)}
    {f4 : Addr} {oc4 kV4 dc4 pm4 cd4 ct4 : Value} {od4 an4 : Option Addr} {sl4 : Array (Option Value)}
    {f5 : Addr} {oc5 kV5 dc5 pm5 cd5 ct5 : Value} {od5 an5 : Option Addr} {sl5 : Array (Option Value)}
    {f6 : Addr} {oc6 kV6 dc6 pm6 cd6 ct6 : Value} {od6 an6 : Option Addr} {sl6 : Array (Option Value)}
    {f7 : Addr} {oc7 kV7 dc7 pm7 cd7 ct7 : Value} {od7 an7 : Option Addr} {sl7 : Array (Option Value)}
    {g0 : Value}
    (a0 : PySem.W.nsIn K mainGlobals "tokens_of" = some (some (.ref f0))) (l0 : K.lookup f0 = some ⟨oc0, od0, .func (PySem.W.fnOf "tokens_of" "tokens_of" (defArgs s_tokens_of) (defBody s_tokens_of) (defScope s_tokens_of) .none kV0 dc0 pm0 an0 cd0 ct0), sl0⟩) (c0 : PySem.W.codeIn K cd0 "tokens_of" = true) (k0 : PySem.W.keepIn K (.ref f0) = true)
    (a1 : PySem.W.nsIn K mainGlobals "_law_begin" = some (some (.ref f1))) (l1 : K.lookup f1 = some ⟨oc1, od1, .func (PySem.W.fnOf "_law_begin" "_law_begin" (defArgs s__law_begin) (defBody s__law_begin) (defScope s__law_begin) .none kV1 dc1 pm1 an1 cd1 ct1), sl1⟩) (c1 : PySem.W.codeIn K cd1 "_law_begin" = true) (k1 : PySem.W.keepIn K (.ref f1) = true)
    (a2 : PySem.W.nsIn K mainGlobals "_law_draw" = some (some (.ref f2))) (l2 : K.lookup f2 = some ⟨oc2, od2, .func (PySem.W.fnOf "_law_draw" "_law_draw" (defArgs s__law_draw) (defBody s__law_draw) (defScope s__law_draw) .none kV2 dc2 pm2 an2 cd2 ct2), sl2⟩) (c2 : PySem.W.codeIn K cd2 "_law_draw" = true) (k2 : PySem.W.keepIn K (.ref f2) = true)
    (a3 : PySem.W.nsIn K mainGlobals "_law_cut" = some (some (.ref f3))) (l3 : K.lookup f3 = some ⟨oc3, od3, .func (PySem.W.fnOf "_law_cut" "_law_cut" (defArgs s__law_cut) (defBody s__law_cut) (defScope s__law_cut) .none kV3 dc3 pm3 an3 cd3 ct3), sl3⟩) (c3 : PySem.W.codeIn K cd3 "_law_cut" = true) (k3 : PySem.W.keepIn K (.ref f3) = true)
    (a4 : PySem.W.nsIn K mainGlobals "_law_pick" = some (some (.ref f4))) (l4 : K.lookup f4 = some ⟨oc4, od4, .func (PySem.W.fnOf "_law_pick" "_law_pick" (defArgs s__law_pick) (defBody s__law_pick) (defScope s__law_pick) .none kV4 dc4 pm4 an4 cd4 ct4), sl4⟩) (c4 : PySem.W.codeIn K cd4 "_law_pick" = true) (k4 : PySem.W.keepIn K (.ref f4) = true)
    (a5 : PySem.W.nsIn K mainGlobals "_law_glued" = some (some (.ref f5))) (l5 : K.lookup f5 = some ⟨oc5, od5, .func (PySem.W.fnOf "_law_glued" "_law_glued" (defArgs s__law_glued) (defBody s__law_glued) (defScope s__law_glued) .none kV5 dc5 pm5 an5 cd5 ct5), sl5⟩) (c5 : PySem.W.codeIn K cd5 "_law_glued" = true) (k5 : PySem.W.keepIn K (.ref f5) = true)
    (a6 : PySem.W.nsIn K mainGlobals "_law_token" = some (some (.ref f6))) (l6 : K.lookup f6 = some ⟨oc6, od6, .func (PySem.W.fnOf "_law_token" "_law_token" (defArgs s__law_token) (defBody s__law_token) (defScope s__law_token) .none kV6 dc6 pm6 an6 cd6 ct6), sl6⟩) (c6 : PySem.W.codeIn K cd6 "_law_token" = true) (k6 : PySem.W.keepIn K (.ref f6) = true)
    (a7 : PySem.W.nsIn K mainGlobals "law" = some (some (.ref f7))) (l7 : K.lookup f7 = some ⟨oc7, od7, .func (PySem.W.fnOf "law" "law" (defArgs s_law) (defBody s_law) (defScope s_law) .none kV7 dc7 pm7 an7 cd7 ct7), sl7⟩) (c7 : PySem.W.codeIn K cd7 "law" = true) (k7 : PySem.W.keepIn K (.ref f7) = true)
    (z0 : PySem.W.nsIn K mainGlobals "len" = some none)
    (z1 : PySem.W.nsIn K mainGlobals "tuple" = some none)
    (z2 : PySem.W.nsIn K mainGlobals "int" = some none)
    (z3 : PySem.W.nsIn K mainGlobals "abs" = some none)
    (z4 : PySem.W.nsIn K mainGlobals "range" = some none)
    (z5 : PySem.W.nsIn K mainGlobals "isinstance" = some none)
    (z6 : PySem.W.nsIn K mainGlobals "all" = some none)
    (z7 : PySem.W.nsIn K mainGlobals "str" = some none)
    (y0 : PySem.W.nsIn K mainGlobals "LETTERS" = some (some g0)) (x0 : ∃ t, g0 = Value.str ck_LETTERS t) :
    ∃ fd : FuncData, (∀ (s : Shared) (v : Value), BindsTo s fd ⟨[v], []⟩ [("_law_script", v)]) ∧ ∀ base : Heap, K.In base → base.Ns mainGlobals mg → FnOk l.prog w K mg base CX0 4 fa fd ["_law_script"] (lowP K spLaw) := by
  have e := hfa.symm.trans (PySem.W.mg_of X G a7)
  cases e
  have B : DL.Blt mg := ⟨PySem.W.mg_none_of X G z0, PySem.W.mg_none_of X G z1, PySem.W.mg_none_of X G z2, PySem.W.mg_none_of X G z3, PySem.W.mg_none_of X G z4, PySem.W.mg_none_of X G z5, PySem.W.mg_none_of X G z6, PySem.W.mg_none_of X G z7, (let ⟨t, e⟩ := x0; ⟨t, (PySem.W.mg_of X G y0).trans (congrArg some e)⟩)⟩
  have T_tokens_of : TopF K mg "tokens_of" "tokens_of" s_tokens_of ["text"] := top_mk X G a0 l0 c0 k0 fun _ _ _ _ _ _ us hl => match us, hl with | [_], _ => rfl
  have T__law_begin : TopF K mg "_law_begin" "_law_begin" s__law_begin ["_law_script"] := top_mk X G a1 l1 c1 k1 fun _ _ _ _ _ _ us hl => match us, hl with | [_], _ => rfl
  have T__law_draw : TopF K mg "_law_draw" "_law_draw" s__law_draw ["_law_d", "_law_many"] := top_mk X G a2 l2 c2 k2 fun _ _ _ _ _ _ us hl => match us, hl with | [_, _], _ => rfl
  have T__law_cut : TopF K mg "_law_cut" "_law_cut" s__law_cut ["_law_text"] := top_mk X G a3 l3 c3 k3 fun _ _ _ _ _ _ us hl => match us, hl with | [_], _ => rfl
  have T__law_pick : TopF K mg "_law_pick" "_law_pick" s__law_pick ["_law_d", "_law_row"] := top_mk X G a4 l4 c4 k4 fun _ _ _ _ _ _ us hl => match us, hl with | [_, _], _ => rfl
  have T__law_glued : TopF K mg "_law_glued" "_law_glued" s__law_glued ["_law_d", "_law_pieces"] := top_mk X G a5 l5 c5 k5 fun _ _ _ _ _ _ us hl => match us, hl with | [_, _], _ => rfl
  have T__law_token : TopF K mg "_law_token" "_law_token" s__law_token ["_law_d"] := top_mk X G a6 l6 c6 k6 fun _ _ _ _ _ _ us hl => match us, hl with | [_], _ => rfl
  refine ⟨PySem.W.fnOf "law" "law" (defArgs s_law) (defBody s_law) (defScope s_law) .none kV7 dc7 pm7 an7 cd7 ct7, fun s v => .of_eq rfl, fun base _ _ => ?_⟩
  have G_tokens_of : Good l.prog w K mg base 1 "tokens_of" ["text"] sp_tokens_of := good_tokens_of T_tokens_of B len_tokens_of sat_tokens_of
  have G__law_begin : Good l.prog w K mg base 1 "_law_begin" ["_law_script"] sp__law_begin := good__law_begin T__law_begin B len__law_begin sat__law_begin
  have G__law_draw : Good l.prog w K mg base 1 "_law_draw" ["_law_d", "_law_many"] sp__law_draw := good__law_draw T__law_draw B len__law_draw sat__law_draw
  have G__law_cut : Good l.prog w K mg base 1 "_law_cut" ["_law_text"] sp__law_cut := good__law_cut T__law_cut B len__law_cut sat__law_cut
  have G__law_pick : Good l.prog w K mg base 2 "_law_pick" ["_law_d", "_law_row"] sp__law_pick := good__law_pick T__law_pick B G__law_draw len__law_pick sat__law_pick
  have G__law_glued : Good l.prog w K mg base 3 "_law_glued" ["_law_d", "_law_pieces"] sp__law_glued := good__law_glued T__law_glued B G__law_pick len__law_glued sat__law_glued
  have G__law_token : Good l.prog w K mg base 3 "_law_token" ["_law_d"] sp__law_token := good__law_token T__law_token B G__law_draw G__law_pick len__law_token sat__law_token
  exact fn_law (fun_mk (st := s_law) l7 c7 k7) B G__law_begin G__law_draw G__law_token G__law_glued G__law_pick G__law_cut G_tokens_of len_law sat_law
open PySem PySem.W PyProof.Rows
set_option maxRecDepth 100000 in
set_option maxHeartbeats 0 in
theorem PySem.Challenge.cw_leaveledger_k07_tokens_holds : PySem.Challenge.rw_leaveledger_k07_tokens.Holds := by
  w_on; o_law; k_head; (case hw => w_witness2)
  k_fill
  refine L2.walk_ofK (l := PySem.Challenge.rw_leaveledger_k07_tokens) (n := 63) (k := 4) (x := "_law_script") (CX := L2.CX0) (sp := fun K => DL.lowP K DL.spLaw) rfl (by decide) rfl ⟨rfl, by decide, by decide⟩ (fun w h Y => PySem.W.kIn_of Y) ?F (fun _ _ _ _ hl ho hs => DL.law_start hl ho hs) (fun _ _ _ _ h => h)
  case F =>
    intro w mg fa h KX G hmg
    refine' DL.all_mk KX G hmg ?a0 ?l0 ?c0 ?k0 ?a1 ?l1 ?c1 ?k1 ?a2 ?l2 ?c2 ?k2 ?a3 ?l3 ?c3 ?k3 ?a4 ?l4 ?c4 ?k4 ?a5 ?l5 ?c5 ?k5 ?a6 ?l6 ?c6 ?k6 ?a7 ?l7 ?c7 ?k7 ?z0 ?z1 ?z2 ?z3 ?z4 ?z5 ?z6 ?z7 ?y0 ?x0
    (case a0 => k_is)
    (case l0 => k_is)
    (case c0 => k_is)
    (case k0 => k_is)
    (case a1 => k_is)
    (case l1 => k_is)
    (case c1 => k_is)
    (case k1 => k_is)
    (case a2 => k_is)
    (case l2 => k_is)
    (case c2 => k_is)
    (case k2 => k_is)
    (case a3 => k_is)
    (case l3 => k_is)
    (case c3 => k_is)
    (case k3 => k_is)
    (case a4 => k_is)
    (case l4 => k_is)
    (case c4 => k_is)
    (case k4 => k_is)
    (case a5 => k_is)
    (case l5 => k_is)
    (case c5 => k_is)
    (case k5 => k_is)
    (case a6 => k_is)
    (case l6 => k_is)
    (case c6 => k_is)
    (case k6 => k_is)
    (case a7 => k_is)
    (case l7 => k_is)
    (case c7 => k_is)
    (case k7 => k_is)
    (case z0 => k_is)
    (case z1 => k_is)
    (case z2 => k_is)
    (case z3 => k_is)
    (case z4 => k_is)
    (case z5 => k_is)
    (case z6 => k_is)
    (case z7 => k_is)
    (case y0 => k_is)
    (case x0 => exact ⟨_, rfl⟩)
