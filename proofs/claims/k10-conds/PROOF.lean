import PyProof.Rows.All
import Wide.All
import OpenK.AllK
import Wide.FinOn
import PySem.Challenge.RW_leaveledger_k10_conds_written
import HandS.Property
import HandS.Words
import HandS.Head0
import HandS.Head1
import HandS.Head2
import HandS.HeadHook1
import HandS.HeadHook2
import HandS.HeadHook3
import HandS.ForMost
import HandS.WordsDict
import KE.KDictKeyed
import HandS.Wide
import HandS.WideBits
import HandS.IsInst
import HandS.TupAny
import HandS.Deep
import HandS.Style
import HandS.Zip
import HandS.More
import KE.GoesMore
import PyProof.StrLawsRepr
import HandS.RaiseMore
import HandS.DictComp
import KE.GoesZip
import KE.GoesEnum
import HandS.Text
import KE.SortCalls
import KE.KDictCopyH
import HandS.Conv
import HandS.TupMul
import HandS.NoneIn
set_option Elab.async false
set_option linter.all false
set_option maxRecDepth 100000
set_option maxHeartbeats 4000000
namespace DL
open PySem PySem.Spec PyProof.Rows L2
/-! the head by one kernel run, ahead of all else: what is read off the heap, the Hook -/
def strsV : List Value → Option (List Str)
  | [] => some []
  | .str x _ :: r => (strsV r).map (x :: ·)
  | _ => none
def entsV : List DictEntry → Option (List (Str × Addr))
  | [] => some []
  | e :: r => match e.key, e.val with
    | .str x _, .ref b => (entsV r).map ((x, b) :: ·)
    | _, _ => none
def strsE : List DictEntry → Option (List (Str × Str))
  | [] => some []
  | e :: r => match e.key, e.val with
    | .str x _, .str y _ => (strsE r).map ((x, y) :: ·)
    | _, _ => none
structure DefZ where
  at_ : PySem.W.Frag → Addr
  name : Str
  qual : Str
  st : Stmt
abbrev FnZ : Type := Option (Str × Str × Arguments × FuncBody × Scope × Addr × List (Str × Addr) × Value × Addr)
def fnZ (K : PySem.W.Frag) (a : Addr) : FnZ := match K.lookup a with
  | some ⟨_, _, .func fd, _⟩ => some (fd.name, fd.qualname, fd.params, fd.body, fd.scope, fd.globals, fd.closure, fd.defaults, fd.builtins)
  | _ => none
def DefZ.val (d : DefZ) : FnZ := some (d.name, d.qual, defArgs d.st, .stmts (defBody d.st), defScope d.st, mainGlobals, [], .none, builtinsNs)
def codeZ (K : PySem.W.Frag) (a : Addr) (q : Str) : Bool := match K.lookup a with
  | some ⟨_, _, .func fd, _⟩ => PySem.W.codeIn K fd.code q
  | _ => false
def DefZ.ok (K : PySem.W.Frag) (d : DefZ) : Bool := PySem.W.keepIn K (.ref (d.at_ K)) && codeZ K (d.at_ K) d.qual
/-- a property's getter -/
def pAd (K : PySem.W.Frag) (C m : Str) : Addr := match PySem.W.recIn K (He.ma K (He.ga K C) m) "property" with
  | some (.ref f :: _) => f
  | _ => 0
def tupZ (K : PySem.W.Frag) (a : Addr) (zs : List Str) : Bool := match K.lookup a with
  | some ⟨.type c, _, .seq its _, _⟩ => decide (c = "tuple") && (decide (zs.length ≤ sizeLine) && decide (strsV its.toList = some zs))
  | _ => false
def pairZ (K : PySem.W.Frag) : List (Str × List Str) → List (Str × Addr) → Bool
  | [], [] => true
  | p :: ps, q :: qs => decide (p.1 = q.1) && (tupZ K q.2 p.2 && pairZ K ps qs)
  | _, _ => false
inductive Fz where
  | he (f : He.Fa)
  | prop (C m : Str)
  | tup (x : Str) (zs : List Str)
  | dic (x : Str) (kvs : List (Str × List Str))
  | dis (x : Str) (kvs : List (Str × Str))
def dicZ (K : PySem.W.Frag) (a : Addr) (kvs : List (Str × List Str)) : Bool := match K.lookup a with
  | some ⟨_, _, .dict es _, _⟩ => (match entsV es.toList with
    | some ts => pairZ K kvs ts
    | none => false)
  | _ => false
def disZ (K : PySem.W.Frag) (a : Addr) (kvs : List (Str × Str)) : Bool := match K.lookup a with
  | some ⟨_, _, .dict es _, _⟩ => decide (strsE es.toList = some kvs)
  | _ => false
def propZ (K : PySem.W.Frag) (C m : Str) : Bool := He.eqO (PySem.W.findIn K (.ref (He.ga K C)) m) (some (some (.ref (He.ma K (He.ga K C) m)))) && (He.eqO (PySem.W.specialIn K (.ref (He.ma K (He.ga K C) m)) "__get__") (some (some (.builtin "property.__get__"))) && (decide (PySem.W.takesIn K (.ref (He.ma K (He.ga K C) m)) = some true) && (match PySem.W.recIn K (He.ma K (He.ga K C) m) "property" with
  | some (.ref _ :: _) => true
  | _ => false)))
def Fz.ok (K : PySem.W.Frag) : Fz → Bool
  | .he f => f.ok K
  | .prop C m => propZ K C m
  | .tup x zs => tupZ K (He.ga K x) zs
  | .dic x kvs => dicZ K (He.ga K x) kvs
  | .dis x kvs => disZ K (He.ga K x) kvs
/-! the Hook -/
abbrev AlZ : Type := Bool × List FnZ × List (Option (List (Option (Str × Int))))
def obsZ (fz : List Fz) (fn : List DefZ) (ts : List He.Tab) (K : PySem.W.Frag) : AlZ := ((fz.all fun f => f.ok K) && (fn.all fun d => d.ok K), fn.map fun d => fnZ K (d.at_ K), ts.map fun t => He.dicW K (t.1 K))
def valZ (fn : List DefZ) (ts : List He.Tab) (w : World) : AlZ := (true, fn.map DefZ.val, ts.map fun t => some (He.keysIn w.params t.2))
def SaysZ (fz : List Fz) (fn : List DefZ) (ts : List He.Tab) (w : World) (K : PySem.W.Frag) : Prop := obsZ fz fn ts K = valZ fn ts w
def obsZG (n : Nat) (fz : List Fz) (fn : List DefZ) (ts : List He.Tab) (g : Addr → Option Obj) : AlZ := obsZ fz fn ts (He.frG g (List.range n))
def hookZ (n : Nat) (fz : List Fz) (fn : List DefZ) (ts : List He.Tab) : PySem.W.Hook where
  α := AlZ
  obs := fun s => obsZG n fz fn ts s.heap.get?
  val := fun w => valZ fn ts w
  says := fun w h => ∃ K : PySem.W.Frag, K.In h ∧ SaysZ fz fn ts w K
  of := fun _ _ e => ⟨_, He.frG_in, e⟩
  keeps := fun _ _ _ ⟨K, hK, c⟩ k => ⟨K, PySem.W.Frag.In.keeps hK k, c⟩
theorem obsZG_eq {n : Nat} {fz : List Fz} {fn : List DefZ} {ts : List He.Tab} {g : Addr → Option Obj} {s : Shared} (h : ∀ a, g a = s.heap.get? a) : obsZG n fz fn ts g = (hookZ n fz fn ts).obs s := by
  have e : g = s.heap.get? := funext h
  rw [e] <;> rfl
/-- two runs as one -/
theorem runZ_and {r : PySem.W.OpenRow} {q : Program} {M n : Nat} {loose : List Str} {w : World} {fz : List Fz} {fn : List DefZ} {ts : List He.Tab} (h1 : HandSHeadRun.RunEq r q (hookZ n fz [] []) (fun s => obsZG n fz [] [] (HandSHeadRun.getT s)) M loose w)
    (h2 : HandSHeadRun.RunEq r q (hookZ n [] fn ts) (fun s => obsZG n [] fn ts (HandSHeadRun.getT s)) M loose w) : HandSHeadRun.RunEq r q (hookZ n fz fn ts) (fun s => obsZG n fz fn ts (HandSHeadRun.getT s)) M loose w := by
  intro os
  obtain ⟨s, hs, e1⟩ := Option.map_eq_some_iff.mp (h1 os)
  obtain ⟨s', hs', e2⟩ := Option.map_eq_some_iff.mp (h2 os)
  have es : s = s' := Option.some.inj (hs.symm.trans hs')
  subst es
  refine Option.map_eq_some_iff.mpr ⟨s, hs, ?_⟩
  obtain ⟨a1, z1⟩ := Prod.mk.inj e1
  obtain ⟨b1, c1⟩ := Prod.mk.inj z1
  obtain ⟨_, z2⟩ := Prod.mk.inj e2
  obtain ⟨_, c2⟩ := Prod.mk.inj z2
  refine Prod.ext a1 (Prod.ext b1 ?_)
  have x1 : ((fz.all fun f => f.ok (He.frG (HandSHeadRun.getT s) (List.range n))) && true) = true := congrArg (fun z : AlZ => z.1) c1
  have x2 : (true && (fn.all fun d => d.ok (He.frG (HandSHeadRun.getT s) (List.range n)))) = true := congrArg (fun z : AlZ => z.1) c2
  have x3 : (fn.map fun d => fnZ (He.frG (HandSHeadRun.getT s) (List.range n)) (d.at_ (He.frG (HandSHeadRun.getT s) (List.range n)))) = fn.map DefZ.val := congrArg (fun z : AlZ => z.2.1) c2
  have x4 : (ts.map fun t => He.dicW (He.frG (HandSHeadRun.getT s) (List.range n)) (t.1 (He.frG (HandSHeadRun.getT s) (List.range n)))) = ts.map fun t => some (He.keysIn w.params t.2) := congrArg (fun z : AlZ => z.2.2) c2
  rw [Bool.and_true] at x1
  rw [Bool.true_and] at x2
  show ((fz.all fun f => f.ok (He.frG (HandSHeadRun.getT s) (List.range n))) && (fn.all fun d => d.ok (He.frG (HandSHeadRun.getT s) (List.range n))), fn.map fun d => fnZ (He.frG (HandSHeadRun.getT s) (List.range n)) (d.at_ (He.frG (HandSHeadRun.getT s) (List.range n))), ts.map fun t => He.dicW (He.frG (HandSHeadRun.getT s) (List.range n)) (t.1 (He.frG (HandSHeadRun.getT s) (List.range n)))) = (true, fn.map DefZ.val, ts.map fun t => some (He.keysIn w.params t.2))
  rw [x1, x2, x3, x4]
  rfl
end DL
namespace DL
open PySem PySem.Spec PyProof.Rows L2
def topZ (i : Nat) : Stmt := PySem.Challenge.pw_leaveledger_k10_conds_written.main.body.getD i (.Pass ⟨0, 0, 0, 0⟩)
def zk_SIGNS : List (Str × Str) := [(Str.ofString "star", Str.ofString "*"), (Str.ofString "plus", Str.ofString "+"), (Str.ofString "maybe", Str.ofString "?")]
def zk_NAME_LINES : List Str := [Str.ofString "asker", Str.ofString "group", Str.ofString "thing", Str.ofString "badge", Str.ofString "flag", Str.ofString "asked", Str.ofString "action", Str.ofString "duty"]
def zfn0 : List DefZ := [⟨fun K => He.ga K "test_tokens", "test_tokens", "test_tokens", topZ 3⟩, ⟨fun K => He.ga K "enclosed", "enclosed", "enclosed", topZ 4⟩, ⟨fun K => He.ga K "table_tokens", "table_tokens", "table_tokens", topZ 6⟩, ⟨fun K => He.ga K "term_tokens", "term_tokens", "term_tokens", topZ 8⟩, ⟨fun K => He.ga K "act_tokens", "act_tokens", "act_tokens", topZ 11⟩, ⟨fun K => He.ga K "_law_begin", "_law_begin", "_law_begin", topZ 17⟩, ⟨fun K => He.ga K "_law_draw", "_law_draw", "_law_draw", topZ 18⟩, ⟨fun K => He.ga K "_law_is_int", "_law_is_int", "_law_is_int", topZ 20⟩, ⟨fun K => He.ga K "_law_reserved", "_law_reserved", "_law_reserved", topZ 22⟩, ⟨fun K => He.ga K "_law_see", "_law_see", "_law_see", topZ 29⟩, ⟨fun K => He.ga K "_law_fold", "_law_fold", "_law_fold", topZ 33⟩, ⟨fun K => He.ga K "_law_partner", "_law_partner", "_law_partner", topZ 39⟩, ⟨fun K => He.ga K "atom_tokens", "atom_tokens", "atom_tokens", topZ 9⟩, ⟨fun K => He.ga K "_law_pick", "_law_pick", "_law_pick", topZ 19⟩, ⟨fun K => He.ga K "_law_gap", "_law_gap", "_law_gap", topZ 21⟩, ⟨fun K => He.ga K "_law_good_name", "_law_good_name", "_law_good_name", topZ 28⟩, ⟨fun K => He.ga K "_law_take", "_law_take", "_law_take", topZ 30⟩, ⟨fun K => He.ga K "_law_take_number", "_law_take_number", "_law_take_number", topZ 32⟩, ⟨fun K => He.ga K "walk_tokens", "walk_tokens", "walk_tokens", topZ 5⟩, ⟨fun K => He.ga K "_law_word", "_law_word", "_law_word", topZ 23⟩, ⟨fun K => He.ga K "_law_take_name", "_law_take_name", "_law_take_name", topZ 31⟩, ⟨fun K => He.ga K "any_walk_tokens", "any_walk_tokens", "any_walk_tokens", topZ 7⟩, ⟨fun K => He.ga K "_law_side", "_law_side", "_law_side", topZ 24⟩, ⟨fun K => He.ga K "_law_take_side", "_law_take_side", "_law_take_side", topZ 34⟩, ⟨fun K => He.ga K "_law_fact", "_law_fact", "_law_fact", topZ 25⟩, ⟨fun K => He.ga K "_law_take_atmost", "_law_take_atmost", "_law_take_atmost", topZ 35⟩, ⟨fun K => He.ga K "_law_take_fact", "_law_take_fact", "_law_take_fact", topZ 36⟩, ⟨fun K => He.ga K "_law_take_cond", "_law_take_cond", "_law_take_cond", topZ 37⟩, ⟨fun K => He.ga K "_law_whole", "_law_whole", "_law_whole", topZ 40⟩, ⟨fun K => He.ga K "cond_tokens", "cond_tokens", "cond_tokens", topZ 10⟩, ⟨fun K => He.ga K "policy_tokens", "policy_tokens", "policy_tokens", topZ 12⟩, ⟨fun K => He.ga K "write_cond", "write_cond", "write_cond", topZ 15⟩, ⟨fun K => He.ga K "line_tokens", "line_tokens", "line_tokens", topZ 13⟩, ⟨fun K => He.ga K "write", "write", "write", topZ 14⟩, ⟨fun K => He.ga K "_law_given", "_law_given", "_law_given", topZ 26⟩, ⟨fun K => He.ga K "_law_same", "_law_same", "_law_same", topZ 38⟩, ⟨fun K => He.ga K "_law_any_cond", "_law_any_cond", "_law_any_cond", topZ 27⟩, ⟨fun K => He.ga K "_law_is_text", "_law_is_text", "_law_is_text", topZ 41⟩, ⟨fun K => He.ga K "law", "law", "law", topZ 42⟩]
def zfn : List DefZ := zfn0
def zfz0 : List Fz := [.he (.free "str"), .he (.free "enumerate"), .he (.free "list"), .he (.free "abs"), .he (.free "int"), .he (.free "len"), .he (.free "isinstance"), .he (.free "bool"), .he (.free "range"), .he (.free "all"), .he (.free "tuple"), .he (.glo "SIGNS"), .dis "SIGNS" zk_SIGNS, .he (.glo "NAME_LINES"), .tup "NAME_LINES" zk_NAME_LINES, .he (.glo "test_tokens"), .he (.glo "enclosed"), .he (.glo "table_tokens"), .he (.glo "term_tokens"), .he (.glo "act_tokens"), .he (.glo "_law_begin"), .he (.glo "_law_draw"), .he (.glo "_law_is_int"), .he (.glo "_law_reserved"), .he (.glo "_law_see"), .he (.glo "_law_fold"), .he (.glo "_law_partner"), .he (.glo "atom_tokens"), .he (.glo "_law_pick"), .he (.glo "_law_gap"), .he (.glo "_law_good_name"), .he (.glo "_law_take"), .he (.glo "_law_take_number"), .he (.glo "walk_tokens"), .he (.glo "_law_word"), .he (.glo "_law_take_name"), .he (.glo "any_walk_tokens"), .he (.glo "_law_side"), .he (.glo "_law_take_side"), .he (.glo "_law_fact")]
def zfz1 : List Fz := [.he (.glo "_law_take_atmost"), .he (.glo "_law_take_fact"), .he (.glo "_law_take_cond"), .he (.glo "_law_whole"), .he (.glo "cond_tokens"), .he (.glo "policy_tokens"), .he (.glo "write_cond"), .he (.glo "line_tokens"), .he (.glo "write"), .he (.glo "_law_given"), .he (.glo "_law_same"), .he (.glo "_law_any_cond"), .he (.glo "_law_is_text"), .he (.glo "law")]
def zfz : List Fz := zfz0 ++ zfz1
def zts0 : List He.Tab := [(fun K => He.ga K "SIGNS", ["star", "plus", "maybe"])]
def zts : List He.Tab := zts0
def zN0 : List Str := ["NAME_LINES", "SIGNS", "test_tokens", "enclosed", "walk_tokens", "table_tokens", "any_walk_tokens", "term_tokens", "atom_tokens", "cond_tokens", "act_tokens", "policy_tokens", "line_tokens", "write", "write_cond", "_law_begin", "_law_draw", "_law_pick", "_law_is_int", "_law_gap", "_law_reserved", "_law_word", "_law_side", "_law_fact", "_law_given", "_law_any_cond", "_law_good_name", "_law_see", "_law_take", "_law_take_name"]
def zN1 : List Str := ["_law_take_number", "_law_fold", "_law_take_side", "_law_take_atmost", "_law_take_fact", "_law_take_cond", "_law_same", "_law_partner", "_law_whole", "_law_is_text"]
def zN : List Str := zN0 ++ zN1
abbrev zR : PySem.W.OpenRow := PySem.W.OpenLaw.row PySem.Challenge.rw_leaveledger_k10_conds_written
abbrev zQ : Program := PySem.W.view zR.prog [42]
abbrev zH : PySem.W.Hook := hookZ 1000 zfz zfn zts
def zob (s : PySem.W.SharedT) : AlZ := obsZG 1000 zfz zfn zts (HandSHeadRun.getT s)
theorem zob_eq (s : PySem.W.SharedT) : zob s = zH.obs s.abs := obsZG_eq (HandSHeadRun.getT_eq s)
theorem zrun_af (w : World) : HandSHeadRun.RunEq zR zQ (hookZ 1000 zfz [] []) (fun s => obsZG 1000 zfz [] [] (HandSHeadRun.getT s)) 9000 zN (w.withFollow "special-get-raises" false) := by
  intro os
  kernel_rfl
theorem zrun_at (w : World) : HandSHeadRun.RunEq zR zQ (hookZ 1000 zfz [] []) (fun s => obsZG 1000 zfz [] [] (HandSHeadRun.getT s)) 9000 zN (w.withFollow "special-get-raises" true) := by
  intro os
  kernel_rfl
theorem zrun_bf (w : World) : HandSHeadRun.RunEq zR zQ (hookZ 1000 [] zfn zts) (fun s => obsZG 1000 [] zfn zts (HandSHeadRun.getT s)) 9000 zN (w.withFollow "special-get-raises" false) := by
  intro os
  kernel_rfl
theorem zrun_bt (w : World) : HandSHeadRun.RunEq zR zQ (hookZ 1000 [] zfn zts) (fun s => obsZG 1000 [] zfn zts (HandSHeadRun.getT s)) 9000 zN (w.withFollow "special-get-raises" true) := by
  intro os
  kernel_rfl
theorem zrun (w : World) : HandSHeadRun.RunEq zR zQ zH zob 9000 zN w := PySem.W.byRow2 "special-get-raises" (P := fun w => HandSHeadRun.RunEq zR zQ zH zob 9000 zN w) (fun w => runZ_and (zrun_af w) (zrun_bf w)) (fun w => runZ_and (zrun_at w) (zrun_bt w)) w
end DL
namespace DL
open PySem PySem.Spec PyProof.Rows L2
/-! ### dicts whose keys are tuples (to depth 8), below the data level -/
abbrev NK := NestedKey
mutual
/-- the value is the key -/
def KIs (K : PySem.W.Frag) (H : Hp) : NK → V → Prop
  | .none, v => v = .non
  | .num i, v => v = .int i ∨ ∃ b, v = .bl b ∧ i = (if b = true then 1 else 0)
  | .text x, v => v = .str x
  | .tup ks, v => ∃ a vs, v = .ref a ∧ SqT K H a vs ∧ KAll K H ks vs
def KAll (K : PySem.W.Frag) (H : Hp) : List NK → List V → Prop
  | [], vs => vs = []
  | k :: ks, vs => ∃ v r, vs = v :: r ∧ KIs K H k v ∧ KAll K H ks r
end
section
variable {X : Cx} {pins : List (Addr × Obj)} {σ : L2.St} {H : Hp} {s : Shared} {a : Addr}
mutual
theorem kis_heap (I : Inv X pins σ H s) : ∀ (k : NK) {v : V} {u : Value}, KIs X.K H k v → RelV v u → NestedIs s.heap k u
  | .none, _, _, q, r => by cases (show _ = _ from q); cases r; exact .none
  | .num i, _, _, q, r => by
    rcases (show _ ∨ _ from q) with rfl | ⟨b, rfl, e⟩
    · obtain ⟨t, rfl⟩ := r; exact .int _ _
    · cases r; exact .bool e
  | .text x, _, _, q, r => by cases (show _ = _ from q); obtain ⟨t, rfl⟩ := r; exact .text _ _
  | .tup ks, _, _, q, r => by
    obtain ⟨b, vs, rfl, st, qs⟩ := q
    cases r
    obtain ⟨its, rs, ⟨o, e, c, n, d⟩, _⟩ := I.tuple st
    exact .tup e c d (by simpa using kall_heap I ks qs rs)
theorem kall_heap (I : Inv X pins σ H s) : ∀ (ks : List NK) {vs : List V} {us : List Value}, KAll X.K H ks vs → Vals vs us → NestedAll s.heap ks us
  | [], _, _, q, r => by cases (show _ = [] from q); cases r; exact .nil
  | k :: ks, _, _, q, r => by
    obtain ⟨v, w, rfl, q1, q2⟩ := q
    cases r with
    | cons r1 r2 => exact .cons (kis_heap I k q1 r1) (kall_heap I ks q2 r2)
end
end
/-- entries: the key, its value, what stands at it -/
abbrev Ent := NK × V × V
def entOk (w : World) (x : Ent) (e : DictEntry) : Prop := e.hash = x.1.hash w ∧ RelV x.2.1 e.key ∧ RelV x.2.2 e.val
def dphi (w : World) (a : Addr) (xs : List Ent) : Heap → Prop := fun h => ∃ o es ep, h.get? a = some o ∧ o.ExactDict ∧ o.data = .dict es ep ∧ Paired (entOk w) xs es.toList
def dobj (w : World) (a : Addr) (xs : List Ent) : HO := .ext (dphi w a xs)
theorem dphi_stay {w : World} {a : Addr} {xs : List Ent} (h1 h2 : Heap) (x : dphi w a xs h1) (k : ∀ o, h1.get? a = some o → h2.get? a = some o) : dphi w a xs h2 :=
  let ⟨o, es, ep, e, r⟩ := x; ⟨o, es, ep, k o e, r⟩
theorem dobj_ok {P : Program} {w : World} {H : Hp} {h : Heap} {a : Addr} {xs : List Ent} (x : dphi w a xs h) : ObjOk P w H h a (dobj w a xs) :=
  ⟨x, let ⟨o, _, _, e, _⟩ := x; ⟨o, e⟩, dphi_stay⟩
/-- what is asked of the keys that stand: tuples, to depth 8, all different -/
structure NDict (X : Cx) (H : Hp) (a : Addr) (xs : List Ent) : Prop where
  at_ : H a = some (dobj X.w a xs)
  low : (a == sysModules) = false
  len : xs.length ≤ sizeLine
  key : ∀ x ∈ xs, (∃ ks, x.1 = .tup ks) ∧ x.1.depth ≤ 8 ∧ KIs X.K H x.1 x.2.1
  nd : (xs.map (·.1)).Nodup
abbrev nkd (X : Cx) : HeapKind X.prog X.w NK := nestedKind X.prog X.w
def entH (x : Ent) (e : DictEntry) : NK × Addr × Value := (x.1, (match e.key with | .ref b => b | _ => 0), e.val)
section
variable {X : Cx} {pins : List (Addr × Obj)} {σ : L2.St} {H : Hp} {s : Shared} {a : Addr} {xs : List Ent}
theorem ents_of (I : Inv X pins σ H s) : ∀ {xs : List Ent} {es : List DictEntry}, Paired (entOk X.w) xs es → (∀ x ∈ xs, (∃ ks, x.1 = .tup ks) ∧ x.1.depth ≤ 8 ∧ KIs X.K H x.1 x.2.1) →
    ∃ ys : List (NK × Addr × Value), es = ys.map (entryOfKey (nkd X)) ∧ (∀ y ∈ ys, (nkd X).is s.heap y.1 y.2.1) ∧ Paired (fun (x : Ent) (y : NK × Addr × Value) => x.1 = y.1 ∧ x.2.1 = .ref y.2.1 ∧ RelV x.2.2 y.2.2) xs ys
  | _, _, .nil, _ => ⟨[], rfl, by simp, .nil⟩
  | _, _, @Paired.cons _ _ _ x e _ _ ⟨h1, h2, h3⟩ t, k => by
    obtain ⟨ys, e1, e2, e3⟩ := ents_of I t fun y hy => k y (by simp [hy])
    obtain ⟨⟨ks, ek⟩, dp, kk⟩ := k x (by simp)
    have ki := kis_heap I _ kk h2
    have kk' := kk
    rw [ek] at kk'
    obtain ⟨b, vs, ev, _, _⟩ := kk'
    rw [ev] at h2 kk
    have eb : e.key = .ref b := h2
    rw [eb] at ki
    refine ⟨(x.1, b, e.val) :: ys, ?_, ?_, .cons ⟨rfl, ev, h3⟩ e3⟩
    · rw [e1, List.map_cons]
      congr 1
      obtain ⟨eh, ekk, evv⟩ := e
      show DictEntry.mk eh ekk evv = DictEntry.mk (x.1.hash X.w) (.ref b) evv
      rw [show eh = x.1.hash X.w from h1, show ekk = .ref b from eb]
    · intro y hy
      rcases List.mem_cons.mp hy with rfl | hy
      · exact ⟨ki, dp⟩
      · exact e2 y hy
theorem ent_keys {xs : List Ent} {ys : List (NK × Addr × Value)} (p : Paired (fun (x : Ent) (y : NK × Addr × Value) => x.1 = y.1 ∧ x.2.1 = .ref y.2.1 ∧ RelV x.2.2 y.2.2) xs ys) : xs.map (·.1) = ys.map (·.1) := by
  induction p with
  | nil => rfl
  | cons q _ ih => rw [List.map_cons, List.map_cons, ih, q.1]
theorem NDict.heap (I : Inv X pins σ H s) (D : NDict X H a xs) : ∃ ys, s.heap.DictOfH (nkd X) a ys ∧ Paired (fun (x : Ent) (y : NK × Addr × Value) => x.1 = y.1 ∧ x.2.1 = .ref y.2.1 ∧ RelV x.2.2 y.2.2) xs ys := by
  obtain ⟨⟨o, es, ep, e, c, d, p⟩, _⟩ := (show ObjOk X.prog X.w H s.heap a (dobj X.w a xs) from I.hok a _ D.at_)
  obtain ⟨ys, e1, e2, e3⟩ := ents_of I p D.key
  have ek := ent_keys e3
  exact ⟨ys, ⟨o, es, ep, e, c, d, e1, e2, by rw [← ek]; exact D.nd⟩, e3⟩
/-- look-ups -/
def entAt (xs : List Ent) (k : NK) : Option V := (xs.find? fun x => decide (x.1 = k)).map (·.2.2)
theorem ent_val {xs : List Ent} {ys : List (NK × Addr × Value)} (p : Paired (fun (x : Ent) (y : NK × Addr × Value) => x.1 = y.1 ∧ x.2.1 = .ref y.2.1 ∧ RelV x.2.2 y.2.2) xs ys) (k : NK) : RelO (entAt xs k) ((atKey ys k).map (·.2)) := by
  induction p with
  | nil => exact True.intro
  | @cons x y _ _ h t ih =>
    unfold entAt atKey at ih ⊢
    by_cases e : x.1 = k
    · rw [List.find?_cons_of_pos (by simp [e]), List.find?_cons_of_pos (by simp [← h.1, e])]
      exact h.2.2
    · rw [List.find?_cons_of_neg (by simp [e]), List.find?_cons_of_neg (by simp [← h.1, e])]
      exact ih
/-- a key that may be asked -/
structure NKey (X : Cx) (H : Hp) (k : NK) (v : V) : Prop where
  tup : ∃ ks, k = .tup ks
  dep : k.depth ≤ 8
  is_ : KIs X.K H k v
theorem NKey.heap (I : Inv X pins σ H s) {k : NK} {v : V} {u : Value} (q : NKey X H k v) (r : RelV v u) : ∃ b, v = .ref b ∧ u = .ref b ∧ (nkd X).is s.heap k b := by
  obtain ⟨⟨ks, rfl⟩, d, i⟩ := q
  have n := kis_heap I _ i r
  obtain ⟨b, vs, rfl, _⟩ := i
  cases r
  exact ⟨b, rfl, rfl, n, d⟩
theorem nroom {A : Around} (hu : A.units + 64 < cLine) : (nkd X).room A.in1 := by show A.units + 1 + 8 < cLine; omega
variable {k : NK} {v : V} {u : Value} {E : Value → Shared → Prop}
theorem n_getItem {Q : Value → Shared → Prop} {r : V} (hu : X.A.units + 64 < cLine) (I : Inv X pins σ H s) (D : NDict X H a xs) (q : NKey X H k v) (rv : RelV v u) (e : entAt xs k = some r) (h : ∀ w' s', Inv X pins σ H s' → RelV r w' → Q w' s') :
    wpAny (model X.prog X.w) X.A (getItem (.ref a) u) Q E s := by
  obtain ⟨ys, dh, p⟩ := D.heap I
  obtain ⟨b, rfl, rfl, ki⟩ := q.heap I rv
  have rel := ent_val p k
  rw [e] at rel
  cases hz : atKey ys k with
  | none => rw [hz] at rel; exact rel.elim
  | some y =>
    rw [hz] at rel
    exact wpAny_getItem_heap (nroom hu) ki dh hz (h _ _ (I.tok _) rel)
theorem n_in {Q : Value → Shared → Prop} (hu : X.A.units + 64 < cLine) (I : Inv X pins σ H s) (D : NDict X H a xs) (q : NKey X H k v) (rv : RelV v u) (h : ∀ s', Inv X pins σ H s' → Q (.bool (entAt xs k).isSome) s') :
    wpAny (model X.prog X.w) X.A (compareOp .In u (.ref a)) Q E s := by
  obtain ⟨ys, dh, p⟩ := D.heap I
  obtain ⟨b, rfl, rfl, ki⟩ := q.heap I rv
  refine wpAny_in_heap (nroom hu) ki D.low dh ?_
  have rel := (ent_val p k).isSome_eq
  rw [Option.isSome_map] at rel
  rw [← rel]; exact h _ (I.tok _)
theorem n_notIn {Q : Value → Shared → Prop} (hu : X.A.units + 64 < cLine) (I : Inv X pins σ H s) (D : NDict X H a xs) (q : NKey X H k v) (rv : RelV v u) (h : ∀ s', Inv X pins σ H s' → Q (.bool (!(entAt xs k).isSome)) s') :
    wpAny (model X.prog X.w) X.A (compareOp .NotIn u (.ref a)) Q E s := by
  obtain ⟨ys, dh, p⟩ := D.heap I
  obtain ⟨b, rfl, rfl, ki⟩ := q.heap I rv
  refine notIn_keyed (nroom hu) ki D.low ⟨ys, dh, rfl⟩ ?_
  rw [valueAt_pairsH, Option.isSome_map]
  have rel := (ent_val p k).isSome_eq
  rw [Option.isSome_map] at rel
  rw [← rel]; exact h _ (I.tok _)
/-- a store: in its place, or at the end -/
def entPut (xs : List Ent) (k : NK) (v r : V) : List Ent := if (entAt xs k).isSome = true then xs.map (fun x => if x.1 = k then (x.1, x.2.1, r) else x) else xs ++ [(k, v, r)]
theorem entPut_keys (xs : List Ent) (k : NK) (v r : V) : (entPut xs k v r).map (·.1) = if (entAt xs k).isSome = true then xs.map (·.1) else xs.map (·.1) ++ [k] := by
  unfold entPut; split
  · rw [List.map_map]; refine List.map_congr_left fun x _ => ?_
    show (if x.1 = k then (x.1, x.2.1, r) else x).1 = x.1
    split <;> rfl
  · rw [List.map_append]; rfl
theorem ent_repl {xs : List Ent} {ys : List (NK × Addr × Value)} (p : Paired (fun (x : Ent) (y : NK × Addr × Value) => x.1 = y.1 ∧ x.2.1 = .ref y.2.1 ∧ RelV x.2.2 y.2.2) xs ys) (k : NK) (r : V) {z : Value} (rz : RelV r z) :
    Paired (fun (x : Ent) (y : NK × Addr × Value) => x.1 = y.1 ∧ x.2.1 = .ref y.2.1 ∧ RelV x.2.2 y.2.2) (xs.map (fun x => if x.1 = k then (x.1, x.2.1, r) else x)) (ys.map (putAt k z)) := by
  induction p with
  | nil => exact .nil
  | @cons x y _ _ h t ih =>
    rw [List.map_cons, List.map_cons]
    refine .cons ?_ ih
    unfold putAt
    by_cases e : x.1 = k
    · rw [if_pos e, if_pos (by rw [← h.1]; exact e)]; exact ⟨h.1, h.2.1, rz⟩
    · rw [if_neg e, if_neg (by rw [← h.1]; exact e)]; exact h
theorem ent_put {xs : List Ent} {ys : List (NK × Addr × Value)} (p : Paired (fun (x : Ent) (y : NK × Addr × Value) => x.1 = y.1 ∧ x.2.1 = .ref y.2.1 ∧ RelV x.2.2 y.2.2) xs ys) (k : NK) (b : Addr) (r : V) {z : Value} (rz : RelV r z) :
    Paired (fun (x : Ent) (y : NK × Addr × Value) => x.1 = y.1 ∧ x.2.1 = .ref y.2.1 ∧ RelV x.2.2 y.2.2) (entPut xs k (.ref b) r) (storedH ys k b z) := by
  have rel := (ent_val p k).isSome_eq
  rw [Option.isSome_map] at rel
  unfold entPut storedH
  rw [rel]
  split
  · exact ent_repl p k r rz
  · exact Paired.snoc p ⟨rfl, rfl, rz⟩
theorem entAt_mem {xs : List Ent} {k : NK} (h : (entAt xs k).isSome = false) : ¬ k ∈ xs.map (·.1) := fun m => by
  obtain ⟨x, hx, e⟩ := List.mem_map.mp m
  unfold entAt at h
  rw [Option.isSome_map, Bool.eq_false_iff] at h
  exact h (List.find?_isSome.mpr ⟨x, hx, by simp [e]⟩)
theorem entPut_nd {xs : List Ent} (k : NK) (v r : V) (h : (xs.map (·.1)).Nodup) : ((entPut xs k v r).map (·.1)).Nodup := by
  rw [entPut_keys]
  cases e : (entAt xs k).isSome with
  | true => exact h
  | false =>
    simp only [Bool.false_eq_true, if_false]
    rw [List.nodup_append]
    refine ⟨h, by simp, fun x hx y hy => ?_⟩
    rw [List.mem_singleton.mp hy]
    intro z; subst z; exact entAt_mem e hx
theorem entPut_len (xs : List Ent) (k : NK) (v r : V) : (entPut xs k v r).length ≤ xs.length + 1 := by
  unfold entPut; split
  · rw [List.length_map]; exact Nat.le_succ _
  · rw [List.length_append]; exact Nat.le_refl _
theorem entPut_mem {xs : List Ent} {k : NK} {v r : V} {P : Ent → Prop} (h : ∀ x ∈ xs, P x) (f : ∀ x, P x → P (x.1, x.2.1, r)) (g : P (k, v, r)) : ∀ x ∈ entPut xs k v r, P x := by
  unfold entPut; split
  · intro x hx
    obtain ⟨y, hy, rfl⟩ := List.mem_map.mp hx
    show P (if y.1 = k then (y.1, y.2.1, r) else y)
    split
    · exact f y (h y hy)
    · exact h y hy
  · intro x hx
    rcases List.mem_append.mp hx with hx | hx
    · exact h x hx
    · rw [List.mem_singleton.mp hx]; exact g
theorem dphi_pair {w : World} {xs : List Ent} {ys : List (NK × Addr × Value)} (p : Paired (fun (x : Ent) (y : NK × Addr × Value) => x.1 = y.1 ∧ x.2.1 = .ref y.2.1 ∧ RelV x.2.2 y.2.2) xs ys) : Paired (entOk X.w) xs (ys.map (entryOfKey (nkd X))) := by
  induction p with
  | nil => exact .nil
  | @cons x y _ _ q _ ih => exact .cons ⟨by rw [q.1]; rfl, by rw [q.2.1]; rfl, q.2.2⟩ ih
/-- the object behind a change of the dict's own object -/
theorem dphi_of {xs : List Ent} {ys : List (NK × Addr × Value)} {h' : Heap} (dh : h'.DictOfH (nkd X) a ys) (p : Paired (fun (x : Ent) (y : NK × Addr × Value) => x.1 = y.1 ∧ x.2.1 = .ref y.2.1 ∧ RelV x.2.2 y.2.2) xs ys) : dphi X.w a xs h' := by
  obtain ⟨o, es, ep, e, c, d, ee, _, _⟩ := dh
  exact ⟨o, es, ep, e, c, d, by rw [ee]; exact dphi_pair (w := X.w) p⟩
theorem n_write {xs' : List Ent} {ys : List (NK × Addr × Value)} {h' : Heap} {t' : Nat} (I : Inv X pins σ H s) (D : NDict X H a xs) (dh : h'.DictOfH (nkd X) a ys) (hs : Heap.SameBut a s.heap h')
    (p : Paired (fun (x : Ent) (y : NK × Addr × Value) => x.1 = y.1 ∧ x.2.1 = .ref y.2.1 ∧ RelV x.2.2 y.2.2) xs' ys) : Inv X pins σ (upd H a (dobj X.w a xs')) { s with heap := h', toks := t' } := by
  have ph := dphi_of dh p
  refine d_write I (by rw [D.at_]; exact True.intro) hs ?_ (dobj_ok ph)
  obtain ⟨o, _, _, e, _⟩ := ph
  exact ⟨o, e⟩
theorem n_setItem {Q : Unit → Shared → Prop} {r : V} {z : Value} (hu : X.A.units + 64 < cLine) (I : Inv X pins σ H s) (D : NDict X H a xs) (q : NKey X H k v) (rv : RelV v u) (rz : RelV r z) (h : ∀ s', Inv X pins σ (upd H a (dobj X.w a (entPut xs k v r))) s' → Q () s') :
    wpAny (model X.prog X.w) X.A (setItem (.ref a) u z) Q E s := by
  obtain ⟨ys, dh, p⟩ := D.heap I
  obtain ⟨b, rfl, rfl, ki⟩ := q.heap I rv
  exact wpAny_setItem_heap (hsz := by rw [← p.length]; exact D.len) (nroom hu) ki dh fun h' dh' hs => h _ (n_write I D dh' hs (ent_put p k b r rz))
theorem n_get {Q : Value → Shared → Prop} {r : V} {z : Value} (hu : X.A.units + 64 < cLine) (I : Inv X pins σ H s) (D : NDict X H a xs) (q : NKey X H k v) (rv : RelV v u) (rz : RelV r z) (h : ∀ w' s', Inv X pins σ H s' → RelV ((entAt xs k).getD r) w' → Q w' s') :
    wpAny (model X.prog X.w) X.A (call (.builtin "dict.get") [.ref a, u, z]) Q E s := by
  obtain ⟨ys, dh, p⟩ := D.heap I
  obtain ⟨b, rfl, rfl, ki⟩ := q.heap I rv
  refine getOr_keyed (nroom hu) ki D.low ⟨ys, dh, rfl⟩ (h _ _ (I.tok _) ?_)
  rw [valueAt_pairsH]
  exact (ent_val p k).getD rz
theorem n_get1 {Q : Value → Shared → Prop} (hu : X.A.units + 64 < cLine) (I : Inv X pins σ H s) (D : NDict X H a xs) (q : NKey X H k v) (rv : RelV v u) (h : ∀ w' s', Inv X pins σ H s' → RelV ((entAt xs k).getD .non) w' → Q w' s') :
    wpAny (model X.prog X.w) X.A (call (.builtin "dict.get") [.ref a, u]) Q E s := by
  obtain ⟨ys, dh, p⟩ := D.heap I
  obtain ⟨b, rfl, rfl, ki⟩ := q.heap I rv
  refine get_keyed (nroom hu) ki D.low ⟨ys, dh, rfl⟩ (h _ _ (I.tok _) ?_)
  rw [valueAt_pairsH]
  exact (ent_val p k).getD (d := V.non) (d' := Value.none) rfl
theorem n_len {Q : Value → Shared → Prop} (I : Inv X pins σ H s) (D : NDict X H a xs) (h : ∀ s' t, Inv X pins σ H s' → Q (.int xs.length t) s') :
    wpAny (model X.prog X.w) X.A (call (.builtin "dict.__len__") [.ref a]) Q E s := by
  obtain ⟨ys, dh, p⟩ := D.heap I
  refine len_keyed D.low ⟨ys, dh, rfl⟩ ?_
  rw [pairsH_length, ← p.length]
  exact h _ _ (I.tok _)
/-- the empty dict is of both kinds -/
theorem empty_n (I : Inv X pins σ H s) (e : H a = some (.dK [])) : Inv X pins σ (upd H a (dobj X.w a [])) s := by
  obtain ⟨z, hd, vs, rel, o, es, ep, h1, h2, h3, _, h5, _⟩ := dk_of I.hok e
  cases rel
  have e0 : es.toList = [] := by cases q : es.toList with | nil => rfl | cons x xs => rw [q] at h5; cases h5
  exact d_write (h' := s.heap) (t' := s.toks) I (by rw [e]; exact True.intro) ⟨rfl, fun _ _ => rfl⟩ ⟨o, h1⟩ (dobj_ok ⟨o, es, ep, h1, h2, h3, by rw [e0]; exact .nil⟩)
theorem empty_k (I : Inv X pins σ H s) (e : H a = some (dobj X.w a [])) (low : (a == sysModules) = false) : Inv X pins σ (upd H a (.dK [])) s := by
  obtain ⟨⟨o, es, ep, h1, h2, h3, p⟩, _⟩ := (show ObjOk X.prog X.w H s.heap a (dobj X.w a []) from I.hok a _ e)
  have e0 : es = #[] := by
    cases q : es.toList with
    | nil => exact Array.toList_eq_nil_iff.mp q
    | cons x xs => rw [q] at p; cases p
  subst e0
  exact d_write (h' := s.heap) (t' := s.toks) I (by rw [e]; exact True.intro) ⟨rfl, fun _ _ => rfl⟩ ⟨o, h1⟩ (dk_new (Nat.zero_le _) low .nil ⟨o, #[], ep, h1, h2, h3, by intro e he; simp at he, by exact .nil, by simp⟩)
end
end DL
namespace DL
open PySem PySem.Spec PyProof.Rows L2
/-! ### data -/
/-- the written part, and the world (of the texts' hashes) -/
structure KW where
  F : PySem.W.Frag
  w : World
  m : Str → Option Value
abbrev _root_.L2.Cx.kw (X : L2.Cx) : KW := ⟨X.K, X.w, X.mg⟩
inductive D where
  | none | bool (b : Bool) | int (i : Int) | str (x : Str) | tup (xs : List D) | rol (xs : List D) | ref (a : Addr) | ty (n : String)
deriving Inhabited
/-- a list that nobody writes: locked, or of the written part -/
def ROL (K : KW) (H : Hp) (a : Addr) (xs : List V) : Prop :=
  (∃ o, H a = some (.frz o (.lst xs))) ∨
    ∃ (o : Obj) (its : Array Value) (n : Nat), K.F.lookup a = some o ∧ o.cls = .type "list" ∧ o.dict = none ∧ o.data = .seq its n ∧ its.size ≤ sizeLine ∧ Vals xs its.toList
theorem ROL.sq {K : KW} {H : Hp} {a : Addr} {xs : List V} (h : ROL K H a xs) : SqL K.F H a xs := by
  rcases h with ⟨o, h⟩ | h
  · exact .inl (.inr ⟨o, h⟩)
  · exact .inr h
/-- a text that the rules take -/
def okS (x : Str) : Prop := x.length ≤ sizeLine ∧ PyData.strOk x = true
mutual
def RepV (K : KW) (H : Hp) : D → V → Prop
  | .none, v => v = .non
  | .bool b, v => v = .bl b
  | .int i, v => v = .int i
  | .str x, v => v = .str x ∧ okS x
  | .ref a, v => v = .ref a
  | .ty n, v => v = .ty n
  | .tup ds, v => ∃ a vs, v = .ref a ∧ SqT K.F H a vs ∧ RepVs K H ds vs
  | .rol ds, v => ∃ a vs, v = .ref a ∧ ROL K H a vs ∧ RepVs K H ds vs
def RepVs (K : KW) (H : Hp) : List D → List V → Prop
  | [], vs => vs = []
  | d :: ds, vs => ∃ v r, vs = v :: r ∧ RepV K H d v ∧ RepVs K H ds r
end
/-- what stands for good stands -/
structure Mo (K : KW) (H H' : Hp) : Prop where
  t : ∀ a xs, SqT K.F H a xs → SqT K.F H' a xs
  l : ∀ a xs, ROL K H a xs → ROL K H' a xs
theorem Mo.refl {K : KW} {H : Hp} : Mo K H H := ⟨fun _ _ h => h, fun _ _ h => h⟩
theorem Mo.trans {K : KW} {H H1 H2 : Hp} (a : Mo K H H1) (b : Mo K H1 H2) : Mo K H H2 := ⟨fun c xs h => b.t c xs (a.t c xs h), fun c xs h => b.l c xs (a.l c xs h)⟩
mutual
theorem RepV.mono {K : KW} {H H' : Hp} (m : Mo K H H') : ∀ (d : D) {v : V}, RepV K H d v → RepV K H' d v
  | .none, _, h => h
  | .bool _, _, h => h
  | .int _, _, h => h
  | .str _, _, h => h
  | .ref _, _, h => h
  | .ty _, _, h => h
  | .tup ds, _, h => by
    obtain ⟨a, vs, e, s, r⟩ := h
    exact ⟨a, vs, e, m.t _ _ s, RepVs.mono m ds r⟩
  | .rol ds, _, h => by
    obtain ⟨a, vs, e, s, r⟩ := h
    exact ⟨a, vs, e, m.l _ _ s, RepVs.mono m ds r⟩
theorem RepVs.mono {K : KW} {H H' : Hp} (m : Mo K H H') : ∀ (ds : List D) {vs : List V}, RepVs K H ds vs → RepVs K H' ds vs
  | [], _, h => h
  | d :: ds, _, h => by
    obtain ⟨v, r, e, h1, h2⟩ := h
    exact ⟨v, r, e, RepV.mono m d h1, RepVs.mono m ds h2⟩
end
section
variable {K : KW} {H : Hp}
theorem RepVs.pair : ∀ {ds : List D} {vs : List V}, RepVs K H ds vs → Paired (RepV K H) ds vs
  | [], _, h => by cases (show _ = [] from h); exact .nil
  | d :: ds, _, h => by
    obtain ⟨v, r, rfl, h1, h2⟩ := h
    exact .cons h1 (RepVs.pair h2)
theorem RepVs.of : ∀ {ds : List D} {vs : List V}, Paired (RepV K H) ds vs → RepVs K H ds vs
  | _, _, .nil => rfl
  | _, _, .cons h t => ⟨_, _, rfl, h, RepVs.of t⟩
theorem RepVs.length {ds : List D} {vs : List V} (h : RepVs K H ds vs) : ds.length = vs.length := h.pair.length
theorem RepVs.cons {d : D} {ds : List D} {v : V} {vs : List V} (h : RepV K H d v) (t : RepVs K H ds vs) : RepVs K H (d :: ds) (v :: vs) := ⟨v, vs, rfl, h, t⟩
theorem RepVs.nil : RepVs K H [] [] := rfl
end
section
variable {α β : Type} {R : α → β → Prop}
theorem P2.get : ∀ {xs : List α} {ys : List β} {i : Nat} {x : α}, Paired R xs ys → xs[i]? = some x → ∃ y, ys[i]? = some y ∧ R x y
  | _, _, _, _, .nil, e => by simp at e
  | _, _, 0, _, .cons r _, e => by simp at e; subst e; exact ⟨_, rfl, r⟩
  | _, _, i + 1, x, .cons _ t, e => by
    obtain ⟨u, h1, h2⟩ := P2.get (i := i) (x := x) t (by simpa using e)
    exact ⟨u, by simpa using h1, h2⟩
theorem P2.get' : ∀ {xs : List α} {ys : List β} {i : Nat} {y : β}, Paired R xs ys → ys[i]? = some y → ∃ x, xs[i]? = some x ∧ R x y
  | _, _, _, _, .nil, e => by simp at e
  | _, _, 0, _, .cons r _, e => by simp at e; subst e; exact ⟨_, rfl, r⟩
  | _, _, i + 1, x, .cons _ t, e => by
    obtain ⟨u, h1, h2⟩ := P2.get' (i := i) (y := x) t (by simpa using e)
    exact ⟨u, by simpa using h1, h2⟩
theorem P2.set {x : α} {u : β} (r : R x u) : ∀ {xs : List α} {us : List β} (i : Nat), Paired R xs us → Paired R (xs.set i x) (us.set i u)
  | _, _, _, .nil => .nil
  | _, _, 0, .cons _ t => .cons r t
  | _, _, i + 1, .cons q t => .cons q (P2.set r i t)
theorem P2.append : ∀ {xs ys : List α} {us ws : List β}, Paired R xs us → Paired R ys ws → Paired R (xs ++ ys) (us ++ ws)
  | _, _, _, _, .nil, s => s
  | _, _, _, _, .cons r t, s => .cons r (P2.append t s)
theorem P2.take : ∀ {xs : List α} {us : List β} (n : Nat), Paired R xs us → Paired R (xs.take n) (us.take n)
  | _, _, 0, _ => .nil
  | _, _, _ + 1, .nil => .nil
  | _, _, n + 1, .cons r t => .cons r (P2.take n t)
theorem P2.drop : ∀ {xs : List α} {us : List β} (n : Nat), Paired R xs us → Paired R (xs.drop n) (us.drop n)
  | _, _, 0, r => r
  | _, _, _ + 1, .nil => .nil
  | _, _, n + 1, .cons _ t => P2.drop n t
theorem P2.reverse {xs : List α} {us : List β} (h : Paired R xs us) : Paired R xs.reverse us.reverse := by
  induction h with
  | nil => exact .nil
  | cons r _ ih => rw [List.reverse_cons, List.reverse_cons]; exact P2.append ih (.cons r .nil)
theorem P2.eraseIdx : ∀ {xs : List α} {us : List β} (n : Nat), Paired R xs us → Paired R (xs.eraseIdx n) (us.eraseIdx n)
  | _, _, _, .nil => .nil
  | _, _, 0, .cons _ t => t
  | _, _, n + 1, .cons r t => .cons r (P2.eraseIdx n t)
theorem P2.dropLast {xs : List α} {us : List β} (h : Paired R xs us) : Paired R xs.dropLast us.dropLast := by
  rw [List.dropLast_eq_take, List.dropLast_eq_take, h.length]; exact P2.take _ h
theorem P2.mono {S : α → β → Prop} (f : ∀ a b, R a b → S a b) : ∀ {xs : List α} {us : List β}, Paired R xs us → Paired S xs us
  | _, _, .nil => .nil
  | _, _, .cons r t => .cons (f _ _ r) (P2.mono f t)
end
/-! ### keys -/
mutual
/-- the key that a value is -/
def nk : D → Option NK
  | .none => some .none
  | .bool b => some (.num (if b = true then 1 else 0))
  | .int i => some (.num i)
  | .str x => some (.text x)
  | .tup ds => (nks ds).map .tup
  | .rol _ => none
  | .ref _ => none
  | .ty _ => none
def nks : List D → Option (List NK)
  | [] => some []
  | d :: ds => match nk d, nks ds with
    | some k, some ks => some (k :: ks)
    | _, _ => none
end
mutual
theorem nk_kis {K : KW} {H : Hp} : ∀ (d : D) {v : V} {k : NK}, RepV K H d v → nk d = some k → KIs K.F H k v
  | .none, _, _, r, e => by cases e; exact r
  | .bool b, _, _, r, e => by cases e; exact .inr ⟨b, r, rfl⟩
  | .int i, _, _, r, e => by cases e; exact .inl r
  | .str x, _, _, r, e => by cases e; exact r.1
  | .rol _, _, _, _, e => by cases e
  | .ref _, _, _, _, e => by cases e
  | .ty _, _, _, _, e => by cases e
  | .tup ds, _, _, r, e => by
    obtain ⟨a, vs, ev, st, rs⟩ := r
    unfold nk at e
    obtain ⟨ks, ek, rfl⟩ := Option.map_eq_some_iff.mp e
    exact ⟨a, vs, ev, st, nks_kall ds rs ek⟩
theorem nks_kall {K : KW} {H : Hp} : ∀ (ds : List D) {vs : List V} {ks : List NK}, RepVs K H ds vs → nks ds = some ks → KAll K.F H ks vs
  | [], _, _, r, e => by cases e; exact r
  | d :: ds, _, _, r, e => by
    obtain ⟨v, w, ev, r1, r2⟩ := r
    unfold nks at e
    cases e1 : nk d with
    | none => rw [e1] at e; cases e
    | some k =>
      cases e2 : nks ds with
      | none => rw [e1, e2] at e; cases e
      | some ks =>
        rw [e1, e2] at e; cases e
        exact ⟨v, w, ev, nk_kis d r1 e1, nks_kall ds r2 e2⟩
end
/-- a number or a text -/
def scaK : D → Option L2.Key
  | .int i => some (.inl i)
  | .str x => some (.inr x)
  | _ => none
theorem sca_rep {K : KW} {H : Hp} {d : D} {v : V} {k : L2.Key} (r : RepV K H d v) (e : scaK d = some k) : v = kV k := by
  cases d <;> first | (cases e; done) | skip
  case int i => cases e; exact r
  case str x => cases e; exact r.1
def tupK (d : D) : Bool := match d with
  | .tup _ => match nk d with
    | some k => decide (k.depth ≤ 8)
    | none => false
  | _ => false
theorem tupK_some {d : D} (h : tupK d = true) : ∃ ks, nk d = some (.tup ks) ∧ (NestedKey.tup ks).depth ≤ 8 := by
  cases d with
  | tup ds =>
    unfold tupK at h
    cases e : nk (.tup ds) with
    | none => rw [e] at h; cases h
    | some k =>
      rw [e] at h
      have e2 := e
      unfold nk at e2
      obtain ⟨ks, _, rfl⟩ := Option.map_eq_some_iff.mp e2
      exact ⟨ks, rfl, of_decide_eq_true h⟩
  | _ => cases h
/-! ### the data-level heap -/
abbrev Kvs := List (D × D)
inductive MO where
  | lst (xs : List D)
  | dic (kvs : Kvs)
  | ins (n : Str) (fs : List (Str × D))
  | fdic (o : Obj) (kvs : Kvs)
abbrev MH := Addr → Option MO
def up (h : MH) (a : Addr) (o : MO) : MH := fun b => if b = a then some o else h b
theorem up_same {h : MH} {a : Addr} {o : MO} : up h a o a = some o := by unfold up; rw [if_pos rfl]
theorem up_ne {h : MH} {a b : Addr} {o : MO} (n : b ≠ a) : up h a o b = h b := by unfold up; rw [if_neg n]
theorem up_up {h : MH} {a : Addr} {o u : MO} : up (up h a o) a u = up h a u := by
  funext b; unfold up; split <;> rfl
def le (h h' : MH) : Prop := ∀ a o, h a = some o → h' a = some o
theorem le.refl {h : MH} : le h h := fun _ _ e => e
theorem le.trans {h h1 h2 : MH} (a : le h h1) (b : le h1 h2) : le h h2 := fun c o e => b c o (a c o e)
theorem le.up {h : MH} {a : Addr} {o : MO} (n : h a = none) : le h (up h a o) := fun b u e => by
  rw [up_ne (fun z => by rw [z, n] at e; cases e)]; exact e
theorem le.up2 {h h' : MH} {a : Addr} {o : MO} (l : le h h') : le (DL.up h a o) (DL.up h' a o) := fun b u e => by
  unfold DL.up at e ⊢; split at e
  · rename_i z; rw [if_pos z]; exact e
  · rename_i z; rw [if_neg z]; exact l b u e
/-- pairs -/
def RepKs (K : KW) (H : Hp) (kvs : Kvs) (kv : List (L2.Key × V)) : Prop := Paired (fun (p : D × D) (q : L2.Key × V) => scaK p.1 = some q.1 ∧ RepV K H p.1 (kV q.1) ∧ RepV K H p.2 q.2) kvs kv
def RepNs (K : KW) (H : Hp) (kvs : Kvs) (xs : List Ent) : Prop := Paired (fun (p : D × D) (x : Ent) => nk p.1 = some x.1 ∧ RepV K H p.1 x.2.1 ∧ RepV K H p.2 x.2.2) kvs xs
def RepFs (K : KW) (H : Hp) (fs : List (Str × D)) (vs : List (Str × V)) : Prop := Paired (fun (p : Str × D) (q : Str × V) => p.1 = q.1 ∧ RepV K H p.2 q.2) fs vs
/-- a dict with tuples as keys -/
structure RepN (K : KW) (H : Hp) (a : Addr) (kvs : Kvs) (xs : List Ent) : Prop where
  at_ : H a = some (dobj K.w a xs)
  rep : RepNs K H kvs xs
  tup : ∀ p ∈ kvs, tupK p.1 = true
  nd : (xs.map (·.1)).Nodup
  len : kvs.length ≤ sizeLine
  low : (a == sysModules) = false
/-- a dict that is walked: its very object is known -/
def pinO (a : Addr) (o : Obj) : HO := .ext fun h => h.get? a = some o
structure RepF (K : KW) (H : Hp) (a : Addr) (o : Obj) (kvs : Kvs) : Prop where
  at_ : H a = some (pinO a o)
  low : (a == sysModules) = false
  len : kvs.length ≤ sizeLine
  cls : o.ExactDict
  con : ∃ xs es ep, RepNs K H kvs xs ∧ (∀ p ∈ kvs, tupK p.1 = true) ∧ (xs.map (·.1)).Nodup ∧ o.data = .dict es ep ∧ Paired (entOk K.w) xs es.toList
/-- what stands at an address -/
def RepO (K : KW) (H : Hp) (a : Addr) : MO → Prop
  | .lst ds => ∃ vs, H a = some (.lst vs) ∧ RepVs K H ds vs
  | .dic kvs => (∃ kv, H a = some (.dK kv) ∧ RepKs K H kvs kv) ∨ ∃ xs, RepN K H a kvs xs
  | .ins n fs => ∃ C dx vs, K.m n = some (.ref C) ∧ H a = some (.ins C dx vs) ∧ RepFs K H fs vs
  | .fdic o kvs => RepF K H a o kvs
/-- hidden from the data level -/
def hid : HO → Bool
  | .lst _ => false
  | .dK _ => false
  | .ext _ => false
  | .ins _ _ _ => false
  | _ => true
def RepH (K : KW) (h : MH) (H : Hp) : Prop := ∀ a o, h a = some o → RepO K H a o
/-- hidden things stand -/
def Stp (h : MH) (H : Hp) (h' : MH) (H' : Hp) : Prop := ∀ a o, h a = none → H a = some o → h' a = none ∧ H' a = some o
section
variable {K : KW} {h h' h1 h2 h0 : MH} {H H' H1 H2 : Hp} {a l : Addr} {d : D} {ds : List D} {v : V} {vs : List V} {o0 : MO}
theorem RepH.low (r : RepH K h H) (w : le h0 h) : RepH K h0 H := fun a o e => r a o (w a o e)
theorem Stp.refl : Stp h H h H := fun _ _ a b => ⟨a, b⟩
theorem Stp.trans (a : Stp h H h1 H1) (b : Stp h1 H1 h2 H2) : Stp h H h2 H2 := fun c o e f => let ⟨x, y⟩ := a c o e f; b c o x y
theorem Stp.low (a : Stp h H h1 H1) (w : le h0 h1) : Stp h H h0 H1 := fun c o e f => by
  obtain ⟨x, y⟩ := a c o e f
  refine ⟨?_, y⟩
  cases q : h0 c with
  | none => rfl
  | some u => rw [w c u q] at x; cases x
theorem RepO.hid (x : RepO K H a o0) : ∃ o, H a = some o ∧ hid o = false := by
  cases o0 with
  | lst ds => obtain ⟨vs, e, _⟩ := x; exact ⟨_, e, rfl⟩
  | dic kvs =>
    rcases x with ⟨kv, e, _⟩ | ⟨xs, r⟩
    · exact ⟨_, e, rfl⟩
    · exact ⟨_, r.at_, rfl⟩
  | ins n fs => obtain ⟨C, dx, vs, _, e, _⟩ := x; exact ⟨_, e, rfl⟩
  | fdic o kvs => exact ⟨_, (show RepF K H a o kvs from x).at_, rfl⟩
theorem RepH.hid (r : RepH K h H) {o : HO} (e : H a = some o) (n : DL.hid o = true) : h a = none := by
  cases q : h a with
  | none => rfl
  | some u =>
    obtain ⟨o2, e2, z⟩ := (r a _ q).hid
    rw [e] at e2; cases e2
    rw [n] at z; cases z
theorem Stp.mo (r : RepH K h H) (s : Stp h H h' H') : Mo K H H' := by
  refine ⟨fun a xs q => ?_, fun a xs q => ?_⟩
  · rcases q with (q | ⟨o, q⟩) | q
    · exact .inl (.inl (s a _ (r.hid q rfl) q).2)
    · exact .inl (.inr ⟨o, (s a _ (r.hid q rfl) q).2⟩)
    · exact .inr q
  · rcases q with ⟨o, q⟩ | q
    · exact .inl ⟨o, (s a _ (r.hid q rfl) q).2⟩
    · exact .inr q
theorem RepO.mono (m : Mo K H H') {o : MO} (q : ∀ u, H a = some u → H' a = some u) (x : RepO K H a o) : RepO K H' a o := by
  cases o with
  | lst ds =>
    obtain ⟨vs, e, r⟩ := x
    exact ⟨vs, q _ e, RepVs.mono m _ r⟩
  | dic kvs =>
    rcases x with ⟨kv, e, r⟩ | ⟨xs, r⟩
    · exact .inl ⟨kv, q _ e, P2.mono (fun _ _ z => ⟨z.1, RepV.mono m _ z.2.1, RepV.mono m _ z.2.2⟩) r⟩
    · exact .inr ⟨xs, ⟨q _ r.at_, P2.mono (fun _ _ z => ⟨z.1, RepV.mono m _ z.2.1, RepV.mono m _ z.2.2⟩) r.rep, r.tup, r.nd, r.len, r.low⟩⟩
  | ins n fs =>
    obtain ⟨C, dx, vs, em, e, r⟩ := x
    exact ⟨C, dx, vs, em, q _ e, P2.mono (fun _ _ z => ⟨z.1, RepV.mono m _ z.2⟩) r⟩
  | fdic o kvs =>
    obtain ⟨at_, low, len, cls, xs, es, ep, r, tp, nd, ed, pr⟩ := (show RepF K H a o kvs from x)
    exact ⟨q _ at_, low, len, cls, xs, es, ep, P2.mono (fun _ _ z => ⟨z.1, RepV.mono m _ z.2.1, RepV.mono m _ z.2.2⟩) r, tp, nd, ed, pr⟩
theorem RepH.nofresh (r : RepH K h H) (n : H l = none) : h l = none := by
  cases q : h l with
  | none => rfl
  | some u =>
    obtain ⟨o2, e2, _⟩ := (r l _ q).hid
    rw [n] at e2; cases e2
/-- something hidden is laid -/
theorem Stp.hide {o : HO} (n : H l = none) : Stp h H h (upd H l o) := fun a u e f => ⟨e, by rw [upd_ne (ne_of_none f n)]; exact f⟩
theorem RepH.hide (r : RepH K h H) {o : HO} (n : H l = none) : RepH K h (upd H l o) := fun a u e =>
  (r a u e).mono (Stp.mo r (Stp.hide n)) fun x f => by rw [upd_ne (ne_of_none f n)]; exact f
/-- a thing is laid -/
theorem Stp.new {o : HO} {u : MO} (n : H l = none) : Stp h H (up h l u) (upd H l o) := fun a x e f =>
  ⟨by rw [up_ne (ne_of_none f n)]; exact e, by rw [upd_ne (ne_of_none f n)]; exact f⟩
theorem RepH.newO (r : RepH K h H) (n : H l = none) {o : HO} {u : MO} (x : RepO K (upd H l o) l u) : RepH K (up h l u) (upd H l o) := fun a w e => by
  have m := Stp.mo r (Stp.hide (o := o) n)
  by_cases q : a = l
  · subst q
    rw [up_same] at e; cases e
    exact x
  · rw [up_ne q] at e
    exact (r a w e).mono m fun x f => by rw [upd_ne q]; exact f
theorem RepH.new (r : RepH K h H) (n : H l = none) (rv : RepVs K H ds vs) : RepH K (up h l (.lst ds)) (upd H l (.lst vs)) :=
  r.newO n ⟨vs, upd_same, RepVs.mono (Stp.mo r (Stp.hide (o := .lst vs) n)) _ rv⟩
/-- a thing is written -/
theorem Stp.write {o : HO} {u x : MO} (e0 : h a = some x) : Stp h H (up h a u) (upd H a o) := fun b y e f => by
  have n : b ≠ a := fun z => by rw [z, e0] at e; cases e
  exact ⟨by rw [up_ne n]; exact e, by rw [upd_ne n]; exact f⟩
theorem RepH.writeO (r : RepH K h H) (e0 : h a = some o0) {o : HO} {u : MO} (x : RepO K (upd H a o) a u) : RepH K (up h a u) (upd H a o) := fun b w e => by
  have m := Stp.mo r (Stp.write (o := o) (u := u) e0)
  by_cases q : b = a
  · subst q
    rw [up_same] at e; cases e
    exact x
  · rw [up_ne q] at e
    exact (r b w e).mono m fun x f => by rw [upd_ne q]; exact f
theorem RepH.write (r : RepH K h H) {ds0 : List D} (e0 : h a = some (.lst ds0)) (rv : RepVs K H ds vs) : RepH K (up h a (.lst ds)) (upd H a (.lst vs)) :=
  r.writeO e0 ⟨vs, upd_same, RepVs.mono (Stp.mo r (Stp.write (o := .lst vs) (u := .lst ds) e0)) _ rv⟩
end
/-! ### the frame -/
abbrev Sl := List (Option D)
def nth : Sl → Nat → Option D
  | [], _ => none
  | x :: _, 0 => x
  | _ :: r, n + 1 => nth r n
def put : Sl → Nat → Option D → Sl
  | [], _, _ => []
  | _ :: r, 0, d => d :: r
  | x :: r, n + 1, d => x :: put r n d
theorem put_len : ∀ (σ : Sl) (i : Nat) (d : Option D), (put σ i d).length = σ.length
  | [], _, _ => rfl
  | _ :: _, 0, _ => rfl
  | _ :: r, n + 1, d => by show (put r n d).length + 1 = r.length + 1; rw [put_len r n d]
theorem nth_put : ∀ (σ : Sl) (i j : Nat) (d : Option D) {e : D}, nth (put σ i d) j = some e → (j = i ∧ d = some e) ∨ (j ≠ i ∧ nth σ j = some e)
  | [], _, _, _, _, h => by cases h
  | x :: r, 0, 0, d, e, h => .inl ⟨rfl, h⟩
  | x :: r, 0, j + 1, d, e, h => .inr ⟨by omega, h⟩
  | x :: r, n + 1, 0, d, e, h => .inr ⟨by omega, h⟩
  | x :: r, n + 1, j + 1, d, e, h => by
    rcases nth_put r n j d h with ⟨a, b⟩ | ⟨a, b⟩
    · exact .inl ⟨by omega, b⟩
    · exact .inr ⟨by omega, b⟩
theorem nth_lt : ∀ (σ : Sl) (i : Nat) {e : D}, nth σ i = some e → i < σ.length
  | [], _, _, h => by cases h
  | _ :: _, 0, _, _ => Nat.zero_lt_succ _
  | _ :: r, n + 1, _, h => Nat.succ_lt_succ (nth_lt r n h)
structure RepE (K : KW) (H : Hp) (σ : Sl) (σV : L2.St) : Prop where
  len : σ.length = σV.length
  val : ∀ i d, nth σ i = some d → ∃ v, σV[i]? = some (some v) ∧ RepV K H d v
section
variable {K : KW} {H H' : Hp} {σ τ : Sl} {σV : L2.St}
theorem RepE.mono (m : Mo K H H') (r : RepE K H σ σV) : RepE K H' σ σV := ⟨r.len, fun i d e => let ⟨v, a, b⟩ := r.val i d e; ⟨v, a, RepV.mono m _ b⟩⟩
theorem RepE.put {i : Nat} {d : D} {v : V} (r : RepE K H σ σV) (rv : RepV K H d v) : RepE K H (put σ i (some d)) (σV.set i (some v)) := by
  refine ⟨by rw [put_len, List.length_set]; exact r.len, fun j e h => ?_⟩
  have hl := nth_lt _ _ h
  rw [put_len, r.len] at hl
  rcases nth_put σ i j _ h with ⟨rfl, q⟩ | ⟨n, q⟩
  · cases q
    exact ⟨v, by rw [List.getElem?_set_self hl], rv⟩
  · obtain ⟨w, a, b⟩ := r.val j e q
    exact ⟨w, by rw [List.getElem?_set_ne (Ne.symm n)]; exact a, b⟩
/-- slots forgotten -/
def leS (τ σ : Sl) : Prop := τ.length = σ.length ∧ ∀ i d, nth τ i = some d → nth σ i = some d
theorem leS.refl : leS σ σ := ⟨rfl, fun _ _ h => h⟩
theorem leS.trans {ρ : Sl} (a : leS ρ τ) (b : leS τ σ) : leS ρ σ := ⟨a.1.trans b.1, fun i d h => b.2 i d (a.2 i d h)⟩
theorem leS.nil : leS [] [] := ⟨rfl, fun _ _ h => h⟩
theorem leS.cons {x : Option D} (a : leS τ σ) : leS (x :: τ) (x :: σ) := ⟨by simp [a.1], fun i d h => by
  cases i with
  | zero => exact h
  | succ n => exact a.2 n d h⟩
theorem leS.skip {x : Option D} (a : leS τ σ) : leS (none :: τ) (x :: σ) := ⟨by simp [a.1], fun i d h => by
  cases i with
  | zero => cases h
  | succ n => exact a.2 n d h⟩
theorem RepE.low (r : RepE K H σ σV) (w : leS τ σ) : RepE K H τ σV := ⟨w.1.trans r.len, fun i d h => r.val i d (w.2 i d h)⟩
end
/-! ### readings of the data level, lowered -/
abbrev KD := D → MH → Prop
abbrev E1 := Sl → MH → KD → Prop
abbrev T1 := Sl → MH → (Bool → MH → Prop) → Prop
abbrev A1 := Sl → MH → (List D → MH → Prop) → Prop
def Cl (K : KW) (h : MH) (H : Hp) (Q : KD) (QV : VK) : Prop := ∀ d h' v H', Stp h H h' H' → RepH K h' H' → RepV K H' d v → Q d h' → QV v H'
def ClB (K : KW) (h : MH) (H : Hp) (Q : Bool → MH → Prop) (QV : Bool → Hp → Prop) : Prop := ∀ b h' H', Stp h H h' H' → RepH K h' H' → Q b h' → QV b H'
def ClA (K : KW) (h : MH) (H : Hp) (Q : List D → MH → Prop) (QV : List V → Hp → Prop) : Prop := ∀ ds h' vs H', Stp h H h' H' → RepH K h' H' → RepVs K H' ds vs → Q ds h' → QV vs H'
def lowE (K : KW) (t : E1) : TE := fun σV H QV => ∃ σ h Q, RepE K H σ σV ∧ RepH K h H ∧ t σ h Q ∧ Cl K h H Q QV
def lowT (K : KW) (t : T1) : TT := fun σV H QV => ∃ σ h Q, RepE K H σ σV ∧ RepH K h H ∧ t σ h Q ∧ ClB K h H Q QV
def lowA (K : KW) (t : A1) : TA := fun σV H QV => ∃ σ h Q, RepE K H σ σV ∧ RepH K h H ∧ t σ h Q ∧ ClA K h H Q QV
theorem Cl.step {K : KW} {h h1 : MH} {H H1 : Hp} {Q : KD} {QV : VK} (s : Stp h H h1 H1) (c : Cl K h H Q QV) : Cl K h1 H1 Q QV := fun d h' v H' s' a b q => c d h' v H' (s.trans s') a b q
theorem ClB.step {K : KW} {h h1 : MH} {H H1 : Hp} {Q : Bool → MH → Prop} {QV : Bool → Hp → Prop} (s : Stp h H h1 H1) (c : ClB K h H Q QV) : ClB K h1 H1 Q QV := fun d h' H' s' a q => c d h' H' (s.trans s') a q
theorem ClA.step {K : KW} {h h1 : MH} {H H1 : Hp} {Q : List D → MH → Prop} {QV : List V → Hp → Prop} (s : Stp h H h1 H1) (c : ClA K h H Q QV) : ClA K h1 H1 Q QV := fun d h' v H' s' a b q => c d h' v H' (s.trans s') a b q
theorem weakE {X : Cx} {e : Expr} {t t' : TE} (p : PE X e t) (w : ∀ σ H Q, t' σ H Q → t σ H Q) : PE X e t' := ⟨fun pins s σ H Q I h => p.run pins s σ H Q I (w σ H Q h)⟩
theorem weakT {X : Cx} {e : Expr} {t t' : TT} (p : PT X e t) (w : ∀ σ H Q, t' σ H Q → t σ H Q) : PT X e t' := ⟨fun pins s σ H Q I h => p.run pins s σ H Q I (w σ H Q h)⟩
theorem weakA {X : Cx} {e : List Expr} {t t' : TA} (p : PA X e t) (w : ∀ σ H Q, t' σ H Q → t σ H Q) : PA X e t' := ⟨fun pos pins s σ H Q I h => p.run pos pins s σ H Q I (w σ H Q h)⟩
abbrev DE (X : Cx) (e : Expr) (t : E1) : Prop := PE X e (lowE X.kw t)
abbrev DT (X : Cx) (e : Expr) (t : T1) : Prop := PT X e (lowT X.kw t)
abbrev DA (X : Cx) (es : List Expr) (t : A1) : Prop := PA X es (lowA X.kw t)
section
variable {X : Cx}
/-! names, constants -/
def dVar (i : Nat) : E1 := fun σ h Q => match nth σ i with | some d => Q d h | none => False
def dC (d : D) : E1 := fun _ h Q => Q d h
theorem de_var (i : Nat) {x : Str} {pos : Pos} (hN : X.N[i]? = some x := by rfl) (hv : Vis X.env.scope x := by first | exact Or.inl rfl | exact Or.inr (Or.inl rfl) | exact Or.inr (Or.inr rfl)) (hd : (x == ("__debug__" : Str)) = false := by decide)
    (hcd : (x == ("__classdict__" : Str)) = false := by decide) : DE X (.Name x pos) (dVar i) := weakE (pe_var hN hv hd hcd) fun σV H QV ⟨σ, h, Q, hE, hH, ht, hc⟩ => by
  unfold dVar at ht
  cases e : nth σ i with
  | none => rw [e] at ht; exact ht.elim
  | some d =>
    rw [e] at ht
    obtain ⟨v, e2, r⟩ := hE.val i d e
    exact ⟨v, e2, hc d h v H Stp.refl hH r ht⟩
theorem de_c {e : Expr} {d : D} {v : V} (p : PE X e (tC v)) (r : ∀ H, RepV X.kw H d v) : DE X e (dC d) := weakE p fun σV H QV ⟨σ, h, Q, hE, hH, ht, hc⟩ => hc d h v H Stp.refl hH (r H) ht
theorem de_int {i j pos} : DE X (.Constant (.int i) j pos) (dC (.int i)) := de_c pe_int fun _ => rfl
theorem de_bl {i j pos} : DE X (.Constant (.bool i) j pos) (dC (.bool i)) := de_c pe_bl fun _ => rfl
theorem de_non {j pos} : DE X (.Constant .none j pos) (dC .none) := de_c pe_non fun _ => rfl
theorem de_str {x j pos} (ok : okS x := by exact ⟨by decide, by decide +kernel⟩) : DE X (.Constant (.str x) j pos) (dC (.str x)) := de_c pe_str fun _ => ⟨rfl, ok⟩
/-- a module's constant that is a number, a text .. -/
theorem de_globI {x : Str} {i : Int} {u : Value} {pos : Pos} (hg : Gl X x) (hm : X.mg x = some u) (r : RelV (.int i) u) (hd : (x == ("__debug__" : Str)) = false := by decide) : DE X (.Name x pos) (dC (.int i)) := de_c (pe_glob hg hm r hd) fun _ => rfl
theorem de_globS {x : Str} {i : Str} {u : Value} {pos : Pos} (hg : Gl X x) (hm : X.mg x = some u) (r : RelV (.str i) u) (ok : okS i := by exact ⟨by decide, by decide +kernel⟩) (hd : (x == ("__debug__" : Str)) = false := by decide) : DE X (.Name x pos) (dC (.str i)) := de_c (pe_glob hg hm r hd) fun _ => ⟨rfl, ok⟩
/-! two-place operations -/
abbrev R1 := D → D → MH → KD → Prop
def lowR (K : KW) (r : R1) : R2 := fun x y H QV => ∃ d e h Q, RepV K H d x ∧ RepV K H e y ∧ RepH K h H ∧ r d e h Q ∧ Cl K h H Q QV
def dOp (r : R1) (ta tb : E1) : E1 := fun σ h Q => ta σ h fun x h1 => tb σ h1 fun y h2 => r x y h2 Q
theorem low_op {K : KW} {r : R1} {ta tb : E1} {σV : L2.St} {H : Hp} {QV : VK} (h : lowE K (dOp r ta tb) σV H QV) : tOp (lowR K r) (lowE K ta) (lowE K tb) σV H QV := by
  obtain ⟨σ, h, Q, hE, hH, ht, hc⟩ := h
  refine ⟨σ, h, _, hE, hH, ht, fun x h1 v1 H1 s1 hH1 r1 q1 => ?_⟩
  refine ⟨σ, h1, _, hE.mono (Stp.mo hH s1), hH1, q1, fun y h2 v2 H2 s2 hH2 r2 q2 => ?_⟩
  exact ⟨x, y, h2, Q, RepV.mono (Stp.mo hH1 s2) _ r1, r2, hH2, q2, hc.step (s1.trans s2)⟩
theorem opR_of {f : Value → Value → Sem Value} {r' : R2} (h : ∀ x y H Q, r' x y H Q → ∃ r, OpR X f r ∧ r x y H Q) : OpR X f r' := fun pins s σ H x y v u Q I rx ry hr =>
  let ⟨r, ho, hq⟩ := h x y H Q hr
  ho pins s σ H x y v u Q I rx ry hq
theorem de_op {op : Operator} {r : R1} {a b : Expr} {ta tb : E1} {pos : Pos} (ho : OpR X (binaryOp op) (lowR X.kw r)) (ha : DE X a ta) (hb : DE X b tb) : DE X (.BinOp a op b pos) (dOp r ta tb) :=
  weakE (pe_op ho ha hb) fun _ _ _ h => low_op h
theorem de_cmpR {op : CmpOp} {r : R1} {a b : Expr} {ta tb : E1} {pos : Pos} (ho : OpR X (compareOp op) (lowR X.kw r)) (ha : DE X a ta) (hb : DE X b tb) (hm : behindInMarks op b = false) : DE X (.Compare a [op] [b] pos) (dOp r ta tb) :=
  weakE (pe_cmpR ho ha hb hm) fun _ _ _ h => low_op h
end
end DL
namespace DL
open PySem PySem.Spec PyProof.Rows L2
/-! ### texts -/
theorem okS.app {x y : Str} (a : okS x) (b : okS y) (h : x.length + y.length ≤ sizeLine) : okS (x ++ y) := by
  refine ⟨by rw [show (x ++ y).length = x.length + y.length from by show (x.cps ++ y.cps).size = _; rw [Array.size_append]; rfl]; exact h, ?_⟩
  have h1 := a.2
  have h2 := b.2
  unfold PyData.strOk at h1 h2 ⊢
  show (x.cps ++ y.cps).all _ = true
  rw [Array.all_append, h1, h2]; rfl
theorem okS.cut {x : Str} (a : okS x) (lo hi : Option Int) : okS (cutS x lo hi) := by
  refine ⟨Nat.le_trans (cutS_length _ _ _) a.1, ?_⟩
  have h1 := a.2
  unfold PyData.strOk at h1 ⊢
  unfold cutS
  rw [← Array.all_toList] at h1 ⊢
  rw [List.all_eq_true] at h1 ⊢
  intro c hc
  exact h1 c (List.mem_of_mem_drop (List.mem_of_mem_take hc))
theorem okS.one {x : Str} {i : Int} {c : Nat} (a : okS x) (h : atI x.cps.toList i = some c) : okS ⟨#[c]⟩ := by
  refine ⟨by show 1 ≤ sizeLine; decide, ?_⟩
  have h1 := a.2
  unfold PyData.strOk at h1 ⊢
  rw [← Array.all_toList] at h1 ⊢
  rw [List.all_eq_true] at h1 ⊢
  intro d hd
  have e : d = c := by simpa using hd
  subst e
  obtain ⟨j, _, hj, _⟩ := atI_get h
  exact h1 d (List.mem_of_getElem? hj)
/-! ### data as PyData -/
mutual
def pd : D → PyData
  | .none => .none
  | .bool b => .bool b
  | .int i => .int i
  | .str x => .str x
  | .tup ds => .tuple (pds ds)
  | .rol ds => .list (pds ds)
  | .ref _ => .none
  | .ty _ => .none
def pds : List D → List PyData
  | [] => []
  | d :: ds => pd d :: pds ds
end
mutual
/-- nothing that can change within; at most n deep -/
def pure? : Nat → D → Bool
  | _, .none => true
  | _, .bool _ => true
  | _, .int _ => true
  | _, .str _ => true
  | n + 1, .tup ds => pures? n ds
  | n + 1, .rol ds => pures? n ds
  | _, _ => false
def pures? : Nat → List D → Bool
  | _, [] => true
  | n, d :: ds => pure? n d && pures? n ds
end
theorem pures_all (n : Nat) : ∀ ds : List D, pures? n ds = ds.all (pure? n)
  | [] => by unfold pures?; rfl
  | d :: ds => by unfold pures?; rw [pures_all n ds]; rfl
mutual
theorem pd_depth : ∀ (n : Nat) (d : D), pure? n d = true → (pd d).depth ≤ n
  | n, .none, _ => by simp [pd, PyData.depth]
  | n, .bool _, _ => by simp [pd, PyData.depth]
  | n, .int _, _ => by simp [pd, PyData.depth]
  | n, .str _, _ => by simp [pd, PyData.depth]
  | 0, .tup ds, h => by simp [pure?] at h
  | n + 1, .tup ds, h => by
    have h' : pures? n ds = true := by simpa [pure?] using h
    have := pds_depth n ds h'
    simp only [pd, PyData.depth]; omega
  | 0, .rol ds, h => by simp [pure?] at h
  | n + 1, .rol ds, h => by
    have h' : pures? n ds = true := by simpa [pure?] using h
    have := pds_depth n ds h'
    simp only [pd, PyData.depth]; omega
  | n, .ref _, h => by simp [pure?] at h
  | n, .ty _, h => by simp [pure?] at h
theorem pds_depth : ∀ (n : Nat) (ds : List D), pures? n ds = true → PyData.depthAll (pds ds) ≤ n
  | n, [], _ => by simp [pds, PyData.depthAll]
  | n, d :: ds, h => by
    have h' : pure? n d = true ∧ pures? n ds = true := by simpa [pures?] using h
    have h1 := pd_depth n d h'.1
    have h2 := pds_depth n ds h'.2
    simp only [pds, PyData.depthAll]; omega
end
section
variable {K : KW} {H : Hp}
mutual
theorem pd_dp : ∀ (n : Nat) (d : D) (v : V), pure? n d = true → RepV K H d v → Dp K.F H v (pd d) ∧ (pd d).canLay0 = true
  | _, .none, v, _, r => by cases (show v = _ from r); exact ⟨.non, by simp [pd, PyData.canLay0]⟩
  | _, .bool b, v, _, r => by cases (show v = _ from r); exact ⟨.bl b, by simp [pd, PyData.canLay0]⟩
  | _, .int b, v, _, r => by cases (show v = _ from r); exact ⟨.int b, by simp [pd, PyData.canLay0]⟩
  | _, .str b, v, _, r => by
    obtain ⟨rfl, ok⟩ := (show v = _ ∧ okS b from r)
    exact ⟨.str b, by simp only [pd, PyData.canLay0]; exact ok.2⟩
  | 0, .tup ds, v, h, r => by simp [pure?] at h
  | n + 1, .tup ds, v, h, r => by
    have h' : pures? n ds = true := by simpa [pure?] using h
    obtain ⟨a, vs, rfl, s, q⟩ := r
    obtain ⟨x, y⟩ := pds_dp n ds vs h' q
    exact ⟨by simp only [pd]; exact .tup s x, by simp only [pd, PyData.canLay0]; exact y⟩
  | 0, .rol ds, v, h, r => by simp [pure?] at h
  | n + 1, .rol ds, v, h, r => by
    have h' : pures? n ds = true := by simpa [pure?] using h
    obtain ⟨a, vs, rfl, s, q⟩ := r
    obtain ⟨x, y⟩ := pds_dp n ds vs h' q
    exact ⟨by simp only [pd]; exact .lst s.sq x, by simp only [pd, PyData.canLay0]; exact y⟩
  | n, .ref _, v, h, r => by simp [pure?] at h
  | n, .ty _, v, h, r => by simp [pure?] at h
theorem pds_dp : ∀ (n : Nat) (ds : List D) (vs : List V), pures? n ds = true → RepVs K H ds vs → DpAll K.F H vs (pds ds) ∧ PyData.canLayAll0 (pds ds) = true
  | n, [], vs, _, r => by cases (show vs = [] from r); exact ⟨by simp only [pds]; exact .nil, by simp [pds, PyData.canLayAll0]⟩
  | n, d :: ds, vs, h, r => by
    have h' : pure? n d = true ∧ pures? n ds = true := by simpa [pures?] using h
    obtain ⟨v, rr, rfl, r1, r2⟩ := r
    obtain ⟨a, b⟩ := pd_dp n d v h'.1 r1
    obtain ⟨c, e⟩ := pds_dp n ds rr h'.2 r2
    exact ⟨by simp only [pds]; exact .cons a c, by simp only [pds, PyData.canLayAll0, b, e]; rfl⟩
end
/-- a list that stands in the heap, or data: as PyData -/
def viewL (ds : List D) : Option PyData := if pures? 60 ds = true then some (.list (pds ds)) else none
def viewP (d : D) : Option PyData := if pure? 60 d = true then some (pd d) else none
def viewO : Option MO → Option PyData
  | some (.lst ds) => viewL ds
  | _ => none
def view (h : MH) : D → Option PyData
  | .ref a => viewO (h a)
  | .none => viewP .none
  | .bool b => viewP (.bool b)
  | .int b => viewP (.int b)
  | .str b => viewP (.str b)
  | .tup b => viewP (.tup b)
  | .rol b => viewP (.rol b)
  | .ty _ => none
theorem viewP_dp {d : D} {v : V} {x : PyData} (r : RepV K H d v) (e : viewP d = some x) : Dp K.F H v x ∧ SeqAt.shaped x = true := by
  unfold viewP at e
  by_cases p : pure? 60 d = true
  · rw [if_pos p] at e
    cases e
    obtain ⟨a, b⟩ := pd_dp 60 d v p r
    refine ⟨a, ?_⟩
    unfold SeqAt.shaped
    rw [b, decide_eq_true (Nat.le_trans (pd_depth 60 d p) (by decide))]; rfl
  · rw [if_neg p] at e; cases e
theorem view_dp {h : MH} (hH : RepH K h H) : ∀ {d : D} {v : V} {x : PyData}, RepV K H d v → view h d = some x → Dp K.F H v x ∧ SeqAt.shaped x = true
  | .none, _, _, r, e => viewP_dp r e
  | .bool _, _, _, r, e => viewP_dp r e
  | .int _, _, _, r, e => viewP_dp r e
  | .str _, _, _, r, e => viewP_dp r e
  | .tup _, _, _, r, e => viewP_dp r e
  | .rol _, _, _, r, e => viewP_dp r e
  | .ty _, _, _, _, e => by cases e
  | .ref a, v, x, r, e => by
    have r' : v = .ref a := r
    subst r'
    have e : viewO (h a) = some x := e
    cases q : h a with
    | none => rw [q] at e; cases e
    | some o =>
      cases o with
      | lst ds =>
        rw [q] at e
        have e : viewL ds = some x := e
        unfold viewL at e
        by_cases p : pures? 60 ds = true
        · rw [if_pos p] at e
          cases e
          obtain ⟨vs, eH, rv⟩ := hH a _ q
          obtain ⟨a1, b1⟩ := pds_dp 60 ds vs p rv
          refine ⟨.lst (SqL.of eH) a1, ?_⟩
          have := pds_depth 60 ds p
          have dd : PyData.depth (.list (pds ds)) ≤ 64 := by simp only [PyData.depth]; omega
          unfold SeqAt.shaped
          rw [decide_eq_true dd]
          simp only [PyData.canLay0, b1]; rfl
        · rw [if_neg p] at e; cases e
      | dic _ => rw [q] at e; cases e
      | ins _ _ => rw [q] at e; cases e
      | fdic _ _ => rw [q] at e; cases e
end
/-! ### operators -/
def mulOk (i j : Int) : Prop := (-(2 ^ 64) < i ∧ i < 2 ^ 64) ∨ (-(2 ^ 64) < j ∧ j < 2 ^ 64)
def divOk (j : Int) : Prop := 0 < j ∧ j.natAbs.log2 < 9000
def addD : R1 := fun x y h Q => match x, y with
  | .int i, .int j => Q (.int (i + j)) h
  | .str a, .str b => a.length + b.length ≤ sizeLine ∧ Q (.str (a ++ b)) h
  | .tup a, .tup b => a.length + b.length ≤ sizeLine ∧ Q (.tup (a ++ b)) h
  | .ref p, .ref q => ∃ a b, h p = some (.lst a) ∧ h q = some (.lst b) ∧ a.length + b.length ≤ sizeLine ∧ ∀ l, h l = none → Q (.ref l) (up h l (.lst (a ++ b)))
  | _, _ => False
def subD : R1 := fun x y h Q => match x, y with
  | .int i, .int j => Q (.int (i - j)) h
  | _, _ => False
def mulD : R1 := fun x y h Q => match x, y with
  | .int i, .int j => mulOk i j ∧ Q (.int (i * j)) h
  | .ref p, .int k => ∃ a, h p = some (.lst a) ∧ (-(2 ^ 63) ≤ k ∧ k < 2 ^ 63) ∧ a.length * k.toNat ≤ sizeLine ∧ ∀ l, h l = none → Q (.ref l) (up h l (.lst (List.replicate k.toNat a).flatten))
  | _, _ => False
def fdivD : R1 := fun x y h Q => match x, y with
  | .int i, .int j => divOk j ∧ Q (.int (i / j)) h
  | _, _ => False
def modD : R1 := fun x y h Q => match x, y with
  | .int i, .int j => 0 < j ∧ Q (.int (i % j)) h
  | _, _ => False
def powD : R1 := fun x y h Q => match x, y with
  | .int i, .int j => CPow i j ∧ Q (.int (i ^ j.toNat)) h
  | _, _ => False
def shlD : R1 := fun x y h Q => match x, y with
  | .int i, .int j => CPow i j ∧ Q (.int (i * 2 ^ j.toNat)) h
  | _, _ => False
def shrD : R1 := fun x y h Q => match x, y with
  | .int i, .int j => 0 ≤ j ∧ Q (.int (i / 2 ^ j.toNat)) h
  | _, _ => False
def andD : R1 := fun x y h Q => match x, y with
  | .int i, .int j => Q (.int (Builtin.bitAnd i j)) h
  | _, _ => False
section
variable {K : KW} {h : MH} {H : Hp} {Q : KD} {QV : VK}
theorem Cl.int (c : Cl K h H Q QV) (hH : RepH K h H) {i : Int} (q : Q (.int i) h) : QV (.int i) H := c (.int i) h _ H Stp.refl hH rfl q
theorem Cl.bl (c : Cl K h H Q QV) (hH : RepH K h H) {i : Bool} (q : Q (.bool i) h) : QV (.bl i) H := c (.bool i) h _ H Stp.refl hH rfl q
theorem Cl.non (c : Cl K h H Q QV) (hH : RepH K h H) (q : Q .none h) : QV .non H := c .none h _ H Stp.refl hH rfl q
theorem Cl.str (c : Cl K h H Q QV) (hH : RepH K h H) {x : Str} (o : okS x) (q : Q (.str x) h) : QV (.str x) H := c (.str x) h _ H Stp.refl hH ⟨rfl, o⟩ q
theorem Cl.val (c : Cl K h H Q QV) (hH : RepH K h H) {d : D} {v : V} (r : RepV K H d v) (q : Q d h) : QV v H := c d h _ H Stp.refl hH r q
theorem Cl.new (c : Cl K h H Q QV) (hH : RepH K h H) {l : Addr} (n : H l = none) {ds : List D} {vs : List V} (r : RepVs K H ds vs) (q : Q (.ref l) (up h l (.lst ds))) : QV (.ref l) (upd H l (.lst vs)) :=
  c (.ref l) _ _ _ (Stp.new n) (hH.new n r) rfl q
theorem Cl.tup (c : Cl K h H Q QV) (hH : RepH K h H) {l : Addr} (n : H l = none) {ds : List D} {vs : List V} (r : RepVs K H ds vs) (q : Q (.tup ds) h) : QV (.ref l) (upd H l (.tup vs)) :=
  c (.tup ds) h _ _ (Stp.hide n) (hH.hide n) ⟨l, vs, rfl, .inl (.inl upd_same), RepVs.mono (Stp.mo hH (Stp.hide n)) _ r⟩ q
theorem Cl.write (c : Cl K h H Q QV) (hH : RepH K h H) {l : Addr} {d0 : List D} (e : h l = some (.lst d0)) {ds : List D} {vs : List V} (r : RepVs K H ds vs) {d : D} {v : V} (rv : RepV K H d v) (q : Q d (up h l (.lst ds))) : QV v (upd H l (.lst vs)) :=
  c d _ _ _ (Stp.write e) (hH.write e r) (RepV.mono (Stp.mo hH (Stp.write (u := .lst ds) e)) _ rv) q
end
section
variable {X : Cx}
theorem od_add : OpR X (binaryOp .Add) (lowR X.kw addD) := opR_of fun x y H QV ⟨d, e, h, Q, rx, ry, hH, hr, hc⟩ => by
  cases d <;> cases e <;> try exact hr.elim
  case int.int i j => exact ⟨_, op_add, i, j, rx, ry, hc.int hH hr⟩
  case str.str a b =>
    obtain ⟨rx, ox⟩ := rx
    obtain ⟨ry, oy⟩ := ry
    exact ⟨_, op_add_str, a, b, rx, ry, hr.1, hc.str hH (ox.app oy hr.1) hr.2⟩
  case tup.tup a b =>
    obtain ⟨p, vs, rfl, s1, r1⟩ := rx
    obtain ⟨q, us, rfl, s2, r2⟩ := ry
    have hl : vs.length + us.length ≤ sizeLine := by rw [← r1.length, ← r2.length]; exact hr.1
    have rr : RepVs X.kw H (a ++ b) (vs ++ us) := .of (P2.append r1.pair r2.pair)
    refine ⟨_, op_catA, p, q, vs, us, rfl, rfl, s1, s2, hl, fun z => ?_, fun _ z => ?_, fun _ _ l n => hc.tup hH n rr hr.2⟩
    · subst z
      have e : a = [] := List.eq_nil_of_length_eq_zero r1.length
      subst e
      exact hc.val hH (d := .tup b) ⟨q, us, rfl, s2, r2⟩ hr.2
    · subst z
      have e : b = [] := List.eq_nil_of_length_eq_zero r2.length
      subst e
      have q2 := hr.2
      rw [List.append_nil] at q2
      exact hc.val hH (d := .tup a) ⟨p, vs, rfl, s1, r1⟩ q2
  case ref.ref p q =>
    obtain ⟨a, b, e1, e2, hl, k⟩ := hr
    cases (show x = _ from rx)
    cases (show y = _ from ry)
    obtain ⟨vs, f1, r1⟩ := hH _ _ e1
    obtain ⟨us, f2, r2⟩ := hH _ _ e2
    refine ⟨_, op_cat, p, q, vs, us, rfl, rfl, f1, f2, by rw [← r1.length, ← r2.length]; exact hl, fun l n => ?_⟩
    exact hc.new hH n (.of (P2.append r1.pair r2.pair)) (k l (hH.nofresh n))
theorem od_sub : OpR X (binaryOp .Sub) (lowR X.kw subD) := opR_of fun x y H QV ⟨d, e, h, Q, rx, ry, hH, hr, hc⟩ => by
  cases d <;> cases e <;> try exact hr.elim
  case int.int i j => exact ⟨_, op_sub, i, j, rx, ry, hc.int hH hr⟩
theorem P2.rep {α β : Type} {R : α → β → Prop} {xs : List α} {us : List β} (h : Paired R xs us) : ∀ k : Nat, Paired R (List.replicate k xs).flatten (List.replicate k us).flatten
  | 0 => .nil
  | k + 1 => by rw [List.replicate_succ, List.replicate_succ, List.flatten_cons, List.flatten_cons]; exact P2.append h (P2.rep h k)
theorem od_mul : OpR X (binaryOp .Mult) (lowR X.kw mulD) := opR_of fun x y H QV ⟨d, e, h, Q, rx, ry, hH, hr, hc⟩ => by
  cases d <;> cases e <;> try exact hr.elim
  case int.int i j => exact ⟨_, op_mul, i, j, rx, ry, hr.1, hc.int hH hr.2⟩
  case ref.int p k =>
    obtain ⟨a, e1, hk, hl, q⟩ := hr
    cases (show x = _ from rx)
    cases (show y = _ from ry)
    obtain ⟨vs, f1, r1⟩ := hH _ _ e1
    refine ⟨_, op_rep, p, k, vs, rfl, rfl, f1, hk.1, hk.2, by rw [← r1.length]; exact hl, fun l n => ?_⟩
    exact hc.new hH n (.of (P2.rep r1.pair _)) (q l (hH.nofresh n))
theorem od_fdiv : OpR X (binaryOp .FloorDiv) (lowR X.kw fdivD) := opR_of fun x y H QV ⟨d, e, h, Q, rx, ry, hH, hr, hc⟩ => by
  cases d <;> cases e <;> try exact hr.elim
  case int.int i j => exact ⟨_, op_fdivW, i, j, rx, ry, hr.1, hc.int hH hr.2⟩
theorem od_mod : OpR X (binaryOp .Mod) (lowR X.kw modD) := opR_of fun x y H QV ⟨d, e, h, Q, rx, ry, hH, hr, hc⟩ => by
  cases d <;> cases e <;> try exact hr.elim
  case int.int i j => exact ⟨_, op_mod, i, j, rx, ry, hr.1, hc.int hH hr.2⟩
theorem od_pow : OpR X (binaryOp .Pow) (lowR X.kw powD) := opR_of fun x y H QV ⟨d, e, h, Q, rx, ry, hH, hr, hc⟩ => by
  cases d <;> cases e <;> try exact hr.elim
  case int.int i j => exact ⟨_, op_pow, i, j, rx, ry, hr.1, hc.int hH hr.2⟩
theorem od_shl : OpR X (binaryOp .LShift) (lowR X.kw shlD) := opR_of fun x y H QV ⟨d, e, h, Q, rx, ry, hH, hr, hc⟩ => by
  cases d <;> cases e <;> try exact hr.elim
  case int.int i j => exact ⟨_, op_shl, i, j, rx, ry, hr.1, hc.int hH hr.2⟩
theorem od_shr : OpR X (binaryOp .RShift) (lowR X.kw shrD) := opR_of fun x y H QV ⟨d, e, h, Q, rx, ry, hH, hr, hc⟩ => by
  cases d <;> cases e <;> try exact hr.elim
  case int.int i j => exact ⟨_, op_shr, i, j, rx, ry, hr.1, hc.int hH hr.2⟩
theorem od_and : OpR X (binaryOp .BitAnd) (lowR X.kw andD) := opR_of fun x y H QV ⟨d, e, h, Q, rx, ry, hH, hr, hc⟩ => by
  cases d <;> cases e <;> try exact hr.elim
  case int.int i j => exact ⟨_, op_and, i, j, rx, ry, hc.int hH hr⟩
/-! ### comparisons -/
def eqvO : Option PyData → Option PyData → (Bool → Prop) → Prop
  | some x, some y, k => k (PyData.eqv x y)
  | _, _, _ => False
def eqD : R1 := fun x y h Q => eqvO (view h x) (view h y) fun b => Q (.bool b) h
def neD : R1 := fun x y h Q => eqvO (view h x) (view h y) fun b => Q (.bool (!b)) h
theorem od_eq (hu : X.A.units + 64 < cLine) : OpR X (compareOp .Eq) (lowR X.kw eqD) := opR_of fun x y H QV ⟨d, e, h, Q, rx, ry, hH, hr, hc⟩ => by
  unfold eqD at hr
  cases e1 : view h d with
  | none => rw [e1] at hr; exact hr.elim
  | some p =>
    cases e2 : view h e with
    | none => rw [e1, e2] at hr; exact hr.elim
    | some q =>
      rw [e1, e2] at hr
      obtain ⟨a1, b1⟩ := view_dp hH rx e1
      obtain ⟨a2, b2⟩ := view_dp hH ry e2
      exact ⟨_, op_eqD hu, p, q, a1, a2, b1, b2, hc.bl hH hr⟩
theorem od_ne (hu : X.A.units + 64 < cLine) : OpR X (compareOp .NotEq) (lowR X.kw neD) := opR_of fun x y H QV ⟨d, e, h, Q, rx, ry, hH, hr, hc⟩ => by
  unfold neD at hr
  cases e1 : view h d with
  | none => rw [e1] at hr; exact hr.elim
  | some p =>
    cases e2 : view h e with
    | none => rw [e1, e2] at hr; exact hr.elim
    | some q =>
      rw [e1, e2] at hr
      obtain ⟨a1, b1⟩ := view_dp hH rx e1
      obtain ⟨a2, b2⟩ := view_dp hH ry e2
      exact ⟨_, op_neD hu, p, q, a1, a2, b1, b2, hc.bl hH hr⟩
def ltS (a b : Str) : Bool := decide (a.cps.toList < b.cps.toList)
def ltD : R1 := fun x y h Q => match x, y with
  | .int i, .int j => Q (.bool (decide (i < j))) h
  | .str i, .str j => Q (.bool (ltS i j)) h
  | _, _ => False
def leD : R1 := fun x y h Q => match x, y with
  | .int i, .int j => Q (.bool (decide (i ≤ j))) h
  | .str i, .str j => Q (.bool (!ltS j i)) h
  | _, _ => False
def gtD : R1 := fun x y h Q => match x, y with
  | .int i, .int j => Q (.bool (decide (j < i))) h
  | .str i, .str j => Q (.bool (ltS j i)) h
  | _, _ => False
def geD : R1 := fun x y h Q => match x, y with
  | .int i, .int j => Q (.bool (decide (j ≤ i))) h
  | .str i, .str j => Q (.bool (!ltS i j)) h
  | _, _ => False
theorem od_lt : OpR X (compareOp .Lt) (lowR X.kw ltD) := opR_of fun x y H QV ⟨d, e, h, Q, rx, ry, hH, hr, hc⟩ => by
  cases d <;> cases e <;> try exact hr.elim
  case int.int i j => exact ⟨_, op_lt, i, j, rx, ry, hc.bl hH hr⟩
  case str.str i j => exact ⟨_, op_lt_str, i, j, rx.1, ry.1, hc.bl hH hr⟩
theorem od_le : OpR X (compareOp .LtE) (lowR X.kw leD) := opR_of fun x y H QV ⟨d, e, h, Q, rx, ry, hH, hr, hc⟩ => by
  cases d <;> cases e <;> try exact hr.elim
  case int.int i j => exact ⟨_, op_le, i, j, rx, ry, hc.bl hH hr⟩
  case str.str i j => exact ⟨_, op_le_str, i, j, rx.1, ry.1, hc.bl hH hr⟩
theorem od_gt : OpR X (compareOp .Gt) (lowR X.kw gtD) := opR_of fun x y H QV ⟨d, e, h, Q, rx, ry, hH, hr, hc⟩ => by
  cases d <;> cases e <;> try exact hr.elim
  case int.int i j => exact ⟨_, op_gt, i, j, rx, ry, hc.bl hH hr⟩
  case str.str i j => exact ⟨_, op_gt_str, i, j, rx.1, ry.1, hc.bl hH hr⟩
theorem od_ge : OpR X (compareOp .GtE) (lowR X.kw geD) := opR_of fun x y H QV ⟨d, e, h, Q, rx, ry, hH, hr, hc⟩ => by
  cases d <;> cases e <;> try exact hr.elim
  case int.int i j => exact ⟨_, op_ge, i, j, rx, ry, hc.bl hH hr⟩
  case str.str i j => exact ⟨_, op_ge_str, i, j, rx.1, ry.1, hc.bl hH hr⟩
end
end DL
namespace DL
open PySem PySem.Spec PyProof.Rows L2
/-! ### dicts, on the data level -/
def dget (kvs : Kvs) (k : D) : Option D := (kvs.find? fun p => decide (nk p.1 = nk k)).map (·.2)
def dset (kvs : Kvs) (k v : D) : Kvs := if (dget kvs k).isSome = true then kvs.map (fun p => if nk p.1 = nk k then (p.1, v) else p) else kvs ++ [(k, v)]
/-- all keys are numbers and texts, or all are tuples -/
def fit (kvs : Kvs) (k : D) : Bool := ((scaK k).isSome && kvs.all fun p => (scaK p.1).isSome) || (tupK k && kvs.all fun p => tupK p.1)
def RO {α β : Type} (R : α → β → Prop) : Option α → Option β → Prop
  | none, none => True
  | some a, some b => R a b
  | _, _ => False
theorem RO.isSome {α β : Type} {R : α → β → Prop} : ∀ {x : Option α} {y : Option β}, RO R x y → y.isSome = x.isSome
  | none, none, _ => rfl
  | some _, some _, _ => rfl
theorem RO.some_ {α β : Type} {R : α → β → Prop} : ∀ {x : Option α} {y : Option β} {a : α}, RO R x y → x = some a → ∃ b, y = some b ∧ R a b
  | some _, some b, _, r, e => by cases e; exact ⟨b, rfl, r⟩
/-- the key of a number, a text -/
def kNK : L2.Key → NK
  | .inl i => .num i
  | .inr x => .text x
theorem kNK_inj {a b : L2.Key} (h : kNK a = kNK b) : a = b := by
  cases a <;> cases b <;> (unfold kNK at h; cases h) <;> rfl
theorem scaK_nk {d : D} {k : L2.Key} (h : scaK d = some k) : nk d = some (kNK k) := by
  cases d <;> first | (cases h; done) | (cases h; rfl)
section
variable {K : KW} {H : Hp}
theorem dget_K {kvs : Kvs} {kv : List (L2.Key × V)} {d : D} {k : L2.Key} (r : RepKs K H kvs kv) (e : scaK d = some k) : RO (RepV K H) (dget kvs d) (valV kv k) := by
  induction r with
  | nil => exact True.intro
  | @cons p q ps qs h t ih =>
    have e1 := scaK_nk h.1
    have e2 := scaK_nk e
    unfold dget at ih ⊢
    by_cases z : q.1 = k
    · rw [List.find?_cons_of_pos (by simp [e1, e2, z]), valV_pos z]
      exact h.2.2
    · rw [List.find?_cons_of_neg (by rw [e1, e2]; simp only [Option.some.injEq, decide_eq_true_eq]; exact fun y => z (kNK_inj y)), valV_neg z]
      exact ih
theorem dget_N {kvs : Kvs} {xs : List Ent} {d : D} {k : NK} (r : RepNs K H kvs xs) (e : nk d = some k) : RO (RepV K H) (dget kvs d) (entAt xs k) := by
  induction r with
  | nil => exact True.intro
  | @cons p q ps qs h t ih =>
    unfold dget entAt at ih ⊢
    by_cases z : q.1 = k
    · rw [List.find?_cons_of_pos (by simp [h.1, e, z]), List.find?_cons_of_pos (by simp [z])]
      exact h.2.2
    · rw [List.find?_cons_of_neg (by simp [h.1, e, z]), List.find?_cons_of_neg (by simp [z])]
      exact ih
theorem repl_K {kvs : Kvs} {kv : List (L2.Key × V)} {d e : D} {k : L2.Key} {z : V} (r : RepKs K H kvs kv) (ek : scaK d = some k) (re : RepV K H e z) :
    RepKs K H (kvs.map (fun p => if nk p.1 = nk d then (p.1, e) else p)) (kv.map fun x => if x.1 = k then (x.1, z) else x) := by
  induction r with
  | nil => exact .nil
  | @cons p q ps qs h t ih =>
    rw [List.map_cons, List.map_cons]
    refine .cons ?_ ih
    have e1 := scaK_nk h.1
    have e2 := scaK_nk ek
    by_cases y : q.1 = k
    · rw [if_pos (by rw [e1, e2, y]), if_pos y]; exact ⟨h.1, h.2.1, re⟩
    · rw [if_neg (by rw [e1, e2]; intro w; exact y (kNK_inj (Option.some.inj w))), if_neg y]; exact h
theorem dset_K {kvs : Kvs} {kv : List (L2.Key × V)} {d e : D} {k : L2.Key} {v z : V} (r : RepKs K H kvs kv) (ek : scaK d = some k) (rd : RepV K H d v) (re : RepV K H e z) : RepKs K H (dset kvs d e) (putK kv k z) := by
  have iso := (dget_K r ek).isSome
  unfold dset putK
  rw [valV_any, iso]
  split
  · exact repl_K r ek re
  · exact Paired.snoc r ⟨ek, by rw [← sca_rep rd ek]; exact rd, re⟩
theorem repl_N {kvs : Kvs} {xs : List Ent} {d e : D} {k : NK} {z : V} (r : RepNs K H kvs xs) (ek : nk d = some k) (re : RepV K H e z) :
    RepNs K H (kvs.map (fun p => if nk p.1 = nk d then (p.1, e) else p)) (xs.map fun x => if x.1 = k then (x.1, x.2.1, z) else x) := by
  induction r with
  | nil => exact .nil
  | @cons p q ps qs h t ih =>
    rw [List.map_cons, List.map_cons]
    refine .cons ?_ ih
    by_cases y : q.1 = k
    · rw [if_pos (by rw [h.1, ek, y]), if_pos y]; exact ⟨h.1, h.2.1, re⟩
    · rw [if_neg (by rw [h.1, ek]; intro w; exact y (Option.some.inj w)), if_neg y]; exact h
theorem dset_N {kvs : Kvs} {xs : List Ent} {d e : D} {k : NK} {v z : V} (r : RepNs K H kvs xs) (ek : nk d = some k) (rd : RepV K H d v) (re : RepV K H e z) : RepNs K H (dset kvs d e) (entPut xs k v z) := by
  have iso := (dget_N r ek).isSome
  unfold dset entPut
  rw [iso]
  split
  · exact repl_N r ek re
  · exact Paired.snoc r ⟨ek, rd, re⟩
theorem dset_len (kvs : Kvs) (k v : D) : (dset kvs k v).length ≤ kvs.length + 1 := by
  unfold dset; split
  · rw [List.length_map]; exact Nat.le_succ _
  · rw [List.length_append]; exact Nat.le_refl _
theorem dset_all {kvs : Kvs} {k v : D} {P : D → Bool} (h : kvs.all (fun p => P p.1) = true) (hk : P k = true) : (dset kvs k v).all (fun p => P p.1) = true := by
  unfold dset; split
  · rw [List.all_map]
    rw [List.all_eq_true] at h ⊢
    intro p hp
    show P (if nk p.1 = nk k then (p.1, v) else p).1 = true
    split <;> exact h p hp
  · rw [List.all_append, h]; simp [hk]
theorem upd_id {a : Addr} {o : HO} (e : H a = some o) : upd H a o = H := by
  funext b; unfold upd; split
  · rename_i z; rw [z, e]
  · rfl
/-- values don't change by an object that is not hidden -/
theorem Mo.upd {a : Addr} {o u : HO} (e : H a = some u) (n : hid u = false) : Mo K H (L2.upd H a o) := by
  have t : ∀ b x, hid x = true → H b = some x → L2.upd H a o b = some x := fun b x hx q => by
    rw [upd_ne]; exact q
    intro z; rw [z, e] at q; cases q; rw [n] at hx; cases hx
  refine ⟨fun b xs q => ?_, fun b xs q => ?_⟩
  · rcases q with (q | ⟨x, q⟩) | q
    · exact .inl (.inl (t b _ rfl q))
    · exact .inl (.inr ⟨x, t b _ rfl q⟩)
    · exact .inr q
  · rcases q with ⟨x, q⟩ | q
    · exact .inl ⟨x, t b _ rfl q⟩
    · exact .inr q
theorem RepKs.mono {H' : Hp} (m : Mo K H H') {kvs : Kvs} {kv : List (L2.Key × V)} (r : RepKs K H kvs kv) : RepKs K H' kvs kv := P2.mono (fun _ _ z => ⟨z.1, RepV.mono m _ z.2.1, RepV.mono m _ z.2.2⟩) r
theorem RepNs.mono {H' : Hp} (m : Mo K H H') {kvs : Kvs} {xs : List Ent} (r : RepNs K H kvs xs) : RepNs K H' kvs xs := P2.mono (fun _ _ z => ⟨z.1, RepV.mono m _ z.2.1, RepV.mono m _ z.2.2⟩) r
theorem RepKs.nil_ {kv : List (L2.Key × V)} (r : RepKs K H [] kv) : kv = [] := by cases r; rfl
theorem RepNs.nil_ {xs : List Ent} (r : RepNs K H [] xs) : xs = [] := by cases r; rfl
end
section
variable {X : Cx} {pins : List (Addr × Obj)} {σ : L2.St} {H : Hp} {a : Addr} {kvs : Kvs} {d e : D} {v : V} {u : Value}
/-- the dict as one of numbers and texts -/
structure AsK (X : Cx) (pins : List (Addr × Obj)) (σ : L2.St) (H : Hp) (a : Addr) (kvs : Kvs) where
  kv : List (L2.Key × V)
  rep : RepKs X.kw H kvs kv
  to_ : ∀ s, Inv X pins σ H s → Inv X pins σ (upd H a (.dK kv)) s
  from_ : ∀ s, Inv X pins σ (upd H a (.dK kv)) s → Inv X pins σ H s
  mo : ∀ o, Mo X.kw H (upd H a o)
/-- the dict as one of tuples -/
structure AsN (X : Cx) (pins : List (Addr × Obj)) (σ : L2.St) (H : Hp) (a : Addr) (kvs : Kvs) where
  xs : List Ent
  rep : RepNs X.kw H kvs xs
  dic : NDict X (upd H a (dobj X.w a xs)) a xs
  to_ : ∀ s, Inv X pins σ H s → Inv X pins σ (upd H a (dobj X.w a xs)) s
  from_ : ∀ s, Inv X pins σ (upd H a (dobj X.w a xs)) s → Inv X pins σ H s
  mo : ∀ o, Mo X.kw H (upd H a o)
theorem RepNs.keys (r : RepNs X.kw H kvs xs) (t : ∀ p ∈ kvs, tupK p.1 = true) : ∀ x ∈ xs, (∃ ks, x.1 = .tup ks) ∧ x.1.depth ≤ 8 ∧ KIs X.K H x.1 x.2.1 := by
  induction r with
  | nil => intro x hx; simp at hx
  | @cons p q ps qs h _ ih =>
    intro x hx
    rcases List.mem_cons.mp hx with rfl | hx
    · obtain ⟨ks, e1, e2⟩ := tupK_some (t p (by simp))
      have e3 := h.1
      rw [e1] at e3
      have e4 := Option.some.inj e3
      exact ⟨⟨ks, e4.symm⟩, by rw [← e4]; exact e2, nk_kis (K := X.kw) _ h.2.1 h.1⟩
    · exact ih (fun p hp => t p (by simp [hp])) x hx
theorem low_of {s : Shared} (I : Inv X pins σ H s) {kv : List (L2.Key × V)} (e : H a = some (.dK kv)) : (a == sysModules) = false ∧ kv.length ≤ sizeLine := let ⟨z, b, _⟩ := dk_of I.hok e; ⟨b, z⟩
theorem as_K {s : Shared} (I : Inv X pins σ H s) (r : RepO X.kw H a (.dic kvs)) (h : kvs.all (fun p => (scaK p.1).isSome) = true) : Nonempty (AsK X pins σ H a kvs) := by
  rcases r with ⟨kv, e, r⟩ | ⟨xs, r⟩
  · exact ⟨⟨kv, r, fun s I => by rw [upd_id e]; exact I, fun s I => by rw [upd_id e] at I; exact I, fun o => Mo.upd e rfl⟩⟩
  · cases kvs with
    | nil =>
      have ex := r.rep.nil_
      subst ex
      refine ⟨⟨[], .nil, fun s I => empty_k I r.at_ r.low, fun s I => ?_, fun o => Mo.upd r.at_ rfl⟩⟩
      have J := empty_n I upd_same
      rw [upd_upd] at J
      have z : upd H a (dobj X.w a []) = H := upd_id r.at_
      rw [z] at J; exact J
    | cons p ps =>
      have h1 := r.tup p (by simp)
      have h2 : (scaK p.1).isSome = true := by rw [List.all_cons, Bool.and_eq_true] at h; exact h.1
      cases q : p.1 <;> rw [q] at h1 h2 <;> first | (cases h1; done) | (cases h2; done)
theorem as_N {s : Shared} (I : Inv X pins σ H s) (r : RepO X.kw H a (.dic kvs)) (h : kvs.all (fun p => tupK p.1) = true) : Nonempty (AsN X pins σ H a kvs) := by
  have t : ∀ p ∈ kvs, tupK p.1 = true := fun p hp => (List.all_eq_true.mp h) p hp
  rcases r with ⟨kv, e, r⟩ | ⟨xs, r⟩
  · cases kvs with
    | nil =>
      have ex := r.nil_
      subst ex
      obtain ⟨low, _⟩ := low_of I e
      refine ⟨⟨[], .nil, ⟨upd_same, low, Nat.zero_le _, by simp, by simp⟩, fun s I => empty_n I e, fun s I => ?_, fun o => Mo.upd e rfl⟩⟩
      have J := empty_k I upd_same low
      rw [upd_upd] at J
      have z : upd H a (.dK []) = H := upd_id e
      rw [z] at J; exact J
    | cons p ps =>
      cases r with
      | cons q _ =>
        have h1 := t p (by simp)
        have h2 := q.1
        cases y : p.1 <;> rw [y] at h1 h2 <;> first | (cases h1; done) | (cases h2; done)
  · have z : upd H a (dobj X.w a xs) = H := upd_id r.at_
    exact ⟨⟨xs, r.rep, ⟨upd_same, r.low, by rw [← r.rep.length]; exact r.len, by rw [z]; exact r.rep.keys t, r.nd⟩, fun s I => by rw [z]; exact I, fun s I => by rw [z] at I; exact I, fun o => Mo.upd r.at_ rfl⟩⟩
theorem fit_or (h : fit kvs d = true) : (∃ k, scaK d = some k ∧ kvs.all (fun p => (scaK p.1).isSome) = true) ∨ (∃ k, nk d = some k ∧ tupK d = true ∧ kvs.all (fun p => tupK p.1) = true) := by
  unfold fit at h
  rw [Bool.or_eq_true, Bool.and_eq_true, Bool.and_eq_true] at h
  rcases h with h | h
  · obtain ⟨k, e⟩ := Option.isSome_iff_exists.mp h.1
    exact .inl ⟨k, e, h.2⟩
  · obtain ⟨ks, e, _⟩ := tupK_some h.1
    exact .inr ⟨_, e, h.1, h.2⟩
theorem nkey_of {k : NK} {H : Hp} (t : tupK d = true) (e : nk d = some k) (r : RepV X.kw H d v) : NKey X H k v := by
  obtain ⟨ks, e2, dp⟩ := tupK_some t
  rw [e] at e2
  have e3 := Option.some.inj e2
  exact ⟨⟨ks, e3⟩, by rw [e3]; exact dp, nk_kis (K := X.kw) _ r e⟩
/-! the operations -/
def VO (K : KW) (H : Hp) (e : D) (w : Value) : Prop := ∃ z, RelV z w ∧ RepV K H e z
variable {s : Shared} {E : Value → Shared → Prop}
theorem RO.getD {α β : Type} {R : α → β → Prop} {x : Option α} {y : Option β} {a : α} {b : β} (r : RO R x y) (h : R a b) : R (x.getD a) (y.getD b) := by
  cases x <;> cases y <;> first | exact h | exact r | exact (show False from r).elim
theorem mo_back {H H' : Hp} (m : Mo X.kw H H') {d : D} {v : V} (r : RepV X.kw H d v) : RepV X.kw H' d v := RepV.mono m _ r
theorem dd_getItem {Q : Value → Shared → Prop} {f : D} (hu : X.A.units + 64 < cLine) (I : Inv X pins σ H s) (ro : RepO X.kw H a (.dic kvs)) (rd : RepV X.kw H d v) (ru : RelV v u) (hf : fit kvs d = true) (hg : dget kvs d = some f)
    (h : ∀ w s', Inv X pins σ H s' → VO X.kw H f w → Q w s') : wpAny (model X.prog X.w) X.A (getItem (.ref a) u) Q E s := by
  rcases fit_or hf with ⟨k, ek, al⟩ | ⟨k, ek, tk, al⟩
  · obtain ⟨A⟩ := as_K I ro al
    obtain ⟨z, hz, rz⟩ := (dget_K A.rep ek).some_ hg
    cases sca_rep rd ek
    refine d_getItem (by omega) (A.to_ s I) (.inl ⟨A.kv, k, .inl upd_same, rfl, hz.symm⟩) ru fun w' s' I' rw' => h w' s' (A.from_ s' I') ⟨z, rw', rz⟩
  · obtain ⟨A⟩ := as_N I ro al
    obtain ⟨z, hz, rz⟩ := (dget_N A.rep ek).some_ hg
    exact n_getItem hu (A.to_ s I) A.dic (nkey_of tk ek (mo_back (A.mo _) rd)) ru hz fun w' s' I' rw' => h w' s' (A.from_ s' I') ⟨z, rw', rz⟩
theorem dd_in {Q : Value → Shared → Prop} (hu : X.A.units + 64 < cLine) (I : Inv X pins σ H s) (ro : RepO X.kw H a (.dic kvs)) (rd : RepV X.kw H d v) (ru : RelV v u) (hf : fit kvs d = true)
    (h : ∀ s', Inv X pins σ H s' → Q (.bool (dget kvs d).isSome) s') : wpAny (model X.prog X.w) X.A (compareOp .In u (.ref a)) Q E s := by
  rcases fit_or hf with ⟨k, ek, al⟩ | ⟨k, ek, tk, al⟩
  · obtain ⟨A⟩ := as_K I ro al
    cases sca_rep rd ek
    refine d_in (o := valV A.kv k) (by omega) (A.to_ s I) (.inl ⟨A.kv, k, .inl upd_same, rfl, rfl⟩) ru fun s' I' => ?_
    rw [(dget_K A.rep ek).isSome]; exact h s' (A.from_ s' I')
  · obtain ⟨A⟩ := as_N I ro al
    refine n_in hu (A.to_ s I) A.dic (nkey_of tk ek (mo_back (A.mo _) rd)) ru fun s' I' => ?_
    rw [(dget_N A.rep ek).isSome]; exact h s' (A.from_ s' I')
theorem dd_notIn {Q : Value → Shared → Prop} (hu : X.A.units + 64 < cLine) (I : Inv X pins σ H s) (ro : RepO X.kw H a (.dic kvs)) (rd : RepV X.kw H d v) (ru : RelV v u) (hf : fit kvs d = true)
    (h : ∀ s', Inv X pins σ H s' → Q (.bool (!(dget kvs d).isSome)) s') : wpAny (model X.prog X.w) X.A (compareOp .NotIn u (.ref a)) Q E s := by
  rcases fit_or hf with ⟨k, ek, al⟩ | ⟨k, ek, tk, al⟩
  · obtain ⟨A⟩ := as_K I ro al
    cases sca_rep rd ek
    refine d_notIn (o := valV A.kv k) (by omega) (A.to_ s I) (.inl ⟨A.kv, k, .inl upd_same, rfl, rfl⟩) ru fun s' I' => ?_
    rw [(dget_K A.rep ek).isSome]; exact h s' (A.from_ s' I')
  · obtain ⟨A⟩ := as_N I ro al
    refine n_notIn hu (A.to_ s I) A.dic (nkey_of tk ek (mo_back (A.mo _) rd)) ru fun s' I' => ?_
    rw [(dget_N A.rep ek).isSome]; exact h s' (A.from_ s' I')
theorem dd_setItem {Q : Unit → Shared → Prop} {z : V} {uz : Value} (hu : X.A.units + 64 < cLine) (I : Inv X pins σ H s) (ro : RepO X.kw H a (.dic kvs)) (rd : RepV X.kw H d v) (ru : RelV v u) (re : RepV X.kw H e z) (rz : RelV z uz) (hf : fit kvs d = true)
    (hl : kvs.length < sizeLine) (h : ∀ s' o, Inv X pins σ (upd H a o) s' → RepO X.kw (upd H a o) a (.dic (dset kvs d e)) → Q () s') : wpAny (model X.prog X.w) X.A (setItem (.ref a) u uz) Q E s := by
  rcases fit_or hf with ⟨k, ek, al⟩ | ⟨k, ek, tk, al⟩
  · obtain ⟨A⟩ := as_K I ro al
    cases sca_rep rd ek
    have rs := dset_K A.rep ek rd re
    refine d_setItem (H' := upd H a (.dK (putK A.kv k z))) (by omega) (A.to_ s I) (.inl ⟨A.kv, k, upd_same, rfl, by rw [← A.rep.length]; exact hl, by rw [upd_upd]⟩) ru rz fun s' I' => ?_
    exact h s' _ I' (.inl ⟨_, upd_same, rs.mono (A.mo _)⟩)
  · obtain ⟨A⟩ := as_N I ro al
    have rs := dset_N A.rep ek rd re
    have nk' := nkey_of tk ek (mo_back (A.mo (dobj X.w a A.xs)) rd)
    refine n_setItem hu (A.to_ s I) A.dic nk' ru rz fun s' I' => ?_
    rw [upd_upd] at I'
    refine h s' _ I' (.inr ⟨_, ⟨upd_same, rs.mono (A.mo _), ?_, entPut_nd _ _ _ A.dic.nd, ?_, A.dic.low⟩⟩)
    · exact fun p hp => List.all_eq_true.mp (dset_all al tk) p hp
    · exact Nat.le_trans (dset_len _ _ _) hl
theorem dd_get2 {Q : Value → Shared → Prop} {z : V} {uz : Value} (hu : X.A.units + 64 < cLine) (I : Inv X pins σ H s) (ro : RepO X.kw H a (.dic kvs)) (rd : RepV X.kw H d v) (ru : RelV v u) (re : RepV X.kw H e z) (rz : RelV z uz) (hf : fit kvs d = true)
    (h : ∀ w s', Inv X pins σ H s' → VO X.kw H ((dget kvs d).getD e) w → Q w s') : wpAny (model X.prog X.w) X.A (call (.builtin "dict.get") [.ref a, u, uz]) Q E s := by
  rcases fit_or hf with ⟨k, ek, al⟩ | ⟨k, ek, tk, al⟩
  · obtain ⟨A⟩ := as_K I ro al
    cases sca_rep rd ek
    exact d_get2 (o := valV A.kv k) (by omega) (A.to_ s I) (.inl ⟨A.kv, k, .inl upd_same, rfl, rfl⟩) ru rz fun w' s' I' rw' => h w' s' (A.from_ s' I') ⟨_, rw', (dget_K A.rep ek).getD re⟩
  · obtain ⟨A⟩ := as_N I ro al
    exact n_get hu (A.to_ s I) A.dic (nkey_of tk ek (mo_back (A.mo _) rd)) ru rz fun w' s' I' rw' => h w' s' (A.from_ s' I') ⟨_, rw', (dget_N A.rep ek).getD re⟩
theorem dd_get1 {Q : Value → Shared → Prop} (hu : X.A.units + 64 < cLine) (I : Inv X pins σ H s) (ro : RepO X.kw H a (.dic kvs)) (rd : RepV X.kw H d v) (ru : RelV v u) (hf : fit kvs d = true)
    (h : ∀ w s', Inv X pins σ H s' → VO X.kw H ((dget kvs d).getD .none) w → Q w s') : wpAny (model X.prog X.w) X.A (call (.builtin "dict.get") [.ref a, u]) Q E s := by
  rcases fit_or hf with ⟨k, ek, al⟩ | ⟨k, ek, tk, al⟩
  · obtain ⟨A⟩ := as_K I ro al
    cases sca_rep rd ek
    exact d_get1 (o := valV A.kv k) (by omega) (A.to_ s I) (.inl ⟨A.kv, k, .inl upd_same, rfl, rfl⟩) ru fun w' s' I' rw' => h w' s' (A.from_ s' I') ⟨_, rw', (dget_K A.rep ek).getD (a := D.none) (b := V.non) (show V.non = V.non from rfl)⟩
  · obtain ⟨A⟩ := as_N I ro al
    exact n_get1 hu (A.to_ s I) A.dic (nkey_of tk ek (mo_back (A.mo _) rd)) ru fun w' s' I' rw' => h w' s' (A.from_ s' I') ⟨_, rw', (dget_N A.rep ek).getD (a := D.none) (b := V.non) (show V.non = V.non from rfl)⟩
/-! a dict that is walked -/
theorem RepF.get {o : Obj} (I : Inv X pins σ H s) (R : RepF X.kw H a o kvs) : s.heap.get? a = some o := (show ObjOk X.prog X.w H s.heap a (pinO a o) from I.hok a _ R.at_).1
theorem RepF.type {o : Obj} (I : Inv X pins σ H s) (R : RepF X.kw H a o kvs) : s.TypeIs (.ref a) "dict" := ⟨o, R.get I, R.cls.1⟩
theorem ff_getItem {Q : Value → Shared → Prop} {f : D} {o : Obj} (hu : X.A.units + 64 < cLine) (I : Inv X pins σ H s) (R : RepF X.kw H a o kvs) (rd : RepV X.kw H d v) (ru : RelV v u) (hf : fit kvs d = true) (hg : dget kvs d = some f)
    (h : ∀ w s', Inv X pins σ H s' → VO X.kw H f w → Q w s') : wpAny (model X.prog X.w) X.A (getItem (.ref a) u) Q E s := by
  have eo := R.get I
  obtain ⟨at_, low, len, cls, xs, es, ep, rn, tp, nd, ed, pr⟩ := R
  rcases fit_or hf with ⟨k, ek, al⟩ | ⟨k, ek, tk, al⟩
  · exfalso
    unfold dget at hg
    obtain ⟨p, hp, _⟩ := Option.map_eq_some_iff.mp hg
    have hm := List.mem_of_find?_eq_some hp
    have h1 := tp p hm
    have h2 := List.all_eq_true.mp al p hm
    cases y : p.1 <;> rw [y] at h1 h2 <;> first | (cases h1; done) | (cases h2; done)
  · obtain ⟨ys, e1, e2, e3⟩ := ents_of I pr (rn.keys tp)
    have kk := ent_keys e3
    have dh : s.heap.DictOfH (nkd X) a ys := ⟨o, es, ep, eo, cls, ed, e1, e2, by rw [← kk]; exact nd⟩
    obtain ⟨b, rfl, rfl, ki⟩ := (nkey_of tk ek rd).heap I ru
    obtain ⟨z, hz, rz⟩ := (dget_N rn ek).some_ hg
    have rel := ent_val e3 k
    rw [hz] at rel
    cases hy : atKey ys k with
    | none => rw [hy] at rel; exact rel.elim
    | some y =>
      rw [hy] at rel
      exact wpAny_getItem_heap (nroom hu) ki dh hy (h _ _ (I.tok _) ⟨z, rel, rz⟩)
/-- that a dict stands there -/
theorem dic_type (I : Inv X pins σ H s) (ro : RepO X.kw H a (.dic kvs)) : s.TypeIs (.ref a) "dict" := by
  rcases ro with ⟨kv, e, _⟩ | ⟨xs, r⟩
  · obtain ⟨_, _, vs, _, dd⟩ := dk_of I.hok e
    exact dd.typeIs
  · obtain ⟨⟨o, es, ep, e, c, _⟩, _⟩ := (show ObjOk X.prog X.w H s.heap a (dobj X.w a xs) from I.hok a _ r.at_)
    exact ⟨o, e, c.1⟩
/-! deep: in a tuple -/
def rInT (K : PySem.W.Frag) (neg : Bool) : R2 := fun x y H Q => ∃ d ds, Dp K H x d ∧ Dp K H y (.tuple ds) ∧ SeqAt.shaped d = true ∧ SeqAt.shaped (.tuple ds) = true ∧ Q (.bl (if neg = true then !(ds.any fun z => PyData.eqv z d) else ds.any fun z => PyData.eqv z d)) H
theorem op_inT (hu : X.A.units + 65 < cLine) : OpR X (compareOp .In) (rInT X.K false) := by
  intro pins s σ H x y v u Q I rx ry ⟨d, ds, hd, he, sd, se, q⟩
  have q : Q (.bl (ds.any fun z => PyData.eqv z d)) H := q
  obtain ⟨_, r1⟩ := Dp.reads I d x v hd rx
  obtain ⟨_, r2⟩ := Dp.reads I (.tuple ds) y u he ry
  exact SeqAt.in_tuple_reads r2 r1 (SeqAt.canLay_of_shaped se) (SeqAt.canLay_of_shaped sd) (room_in_shaped sd hu) ⟨.bl _, H, I, rfl, q⟩
theorem op_notInT (hu : X.A.units + 65 < cLine) : OpR X (compareOp .NotIn) (rInT X.K true) := by
  intro pins s σ H x y v u Q I rx ry ⟨d, ds, hd, he, sd, se, q⟩
  have q : Q (.bl (!ds.any fun z => PyData.eqv z d)) H := q
  obtain ⟨_, r1⟩ := Dp.reads I d x v hd rx
  obtain ⟨_, r2⟩ := Dp.reads I (.tuple ds) y u he ry
  exact SeqAt.notIn_tuple_reads r2 r1 (SeqAt.canLay_of_shaped se) (SeqAt.canLay_of_shaped sd) (room_in_shaped sd hu) ⟨.bl _, H, I, rfl, q⟩
end
end DL
namespace DL
open PySem PySem.Spec PyProof.Rows L2
/-- the items of what stands in a row -/
def seqO : Option MO → Option (List D)
  | some (.lst ds) => some ds
  | _ => none
def seqOf (h : MH) : D → Option (List D)
  | .tup ds => some ds
  | .rol ds => some ds
  | .ref a => seqO (h a)
  | .none => none
  | .bool _ => none
  | .int _ => none
  | .str _ => none
  | .ty _ => none
theorem seq_rep {K : KW} {h : MH} {H : Hp} (hH : RepH K h H) : ∀ {d : D} {v : V} {ds : List D}, RepV K H d v → seqOf h d = some ds → ∃ a vs, v = .ref a ∧ RepVs K H ds vs ∧ (SqL K.F H a vs ∨ SqT K.F H a vs)
  | .tup _, _, _, r, e => by
    obtain ⟨a, vs, ev, s, q⟩ := r
    cases e
    exact ⟨a, vs, ev, q, .inr s⟩
  | .rol _, _, _, r, e => by
    obtain ⟨a, vs, ev, s, q⟩ := r
    cases e
    exact ⟨a, vs, ev, q, .inl s.sq⟩
  | .none, _, _, _, e => by cases e
  | .bool _, _, _, _, e => by cases e
  | .int _, _, _, _, e => by cases e
  | .str _, _, _, _, e => by cases e
  | .ty _, _, _, _, e => by cases e
  | .ref a, v, ds, r, e => by
    cases (show v = .ref a from r)
    have e : seqO (h a) = some ds := e
    cases q : h a with
    | none => rw [q] at e; cases e
    | some o =>
      cases o with
      | lst ds' =>
        rw [q] at e
        cases e
        obtain ⟨vs, eH, rv⟩ := hH a _ q
        exact ⟨a, vs, rfl, rv, .inl (SqL.of eH)⟩
      | dic _ => rw [q] at e; cases e
      | ins _ _ => rw [q] at e; cases e
      | fdic _ _ => rw [q] at e; cases e
/-! ### in -/
def eqF (x y : D) : Bool := PyData.eqv (pd x) (pd y)
def inS (a z : Str) : Bool := !(Builtin.Str.occurrences z a 0 z.length 1).isEmpty
theorem inS_one (c : Nat) (z : Str) : inS ⟨#[c]⟩ z = decide (c ∈ z.cps.toList) := PySem.StrLaws.found_one z c
def inStr (x : D) (z : Str) (k : Bool → Prop) : Prop := match x with
  | .str a => k (inS a z)
  | _ => False
def inSeq (x : D) (k : Bool → Prop) (ds : List D) : Prop := pure? 60 x = true ∧ pures? 60 ds = true ∧ k (ds.any fun z => eqF z x)
def inDic (kvs : Kvs) (x : D) (k : Bool → Prop) : Prop := fit kvs x = true ∧ k (dget kvs x).isSome
def inO (x : D) (k : Bool → Prop) : Option MO → Prop
  | some (.lst ds) => inSeq x k ds
  | some (.dic kvs) => inDic kvs x k
  | _ => False
def inAny (x y : D) (h : MH) (k : Bool → Prop) : Prop := match y with
  | .str z => inStr x z k
  | .ref a => inO x k (h a)
  | .tup ds => inSeq x k ds
  | .rol ds => inSeq x k ds
  | _ => False
def inD : R1 := fun x y h Q => inAny x y h fun b => Q (.bool b) h
def ninD : R1 := fun x y h Q => inAny x y h fun b => Q (.bool (!b)) h
theorem any_pds (x : D) : ∀ ds : List D, ((pds ds).any fun z => PyData.eqv z (pd x)) = ds.any fun z => eqF z x
  | [] => by simp [pds]
  | d :: ds => by rw [pds, List.any_cons, List.any_cons, any_pds x ds]; rfl
section
variable {K : KW} {h : MH} {H : Hp}
theorem dp_of {x : D} {v : V} (r : RepV K H x v) (p : pure? 60 x = true) : Dp K.F H v (pd x) ∧ SeqAt.shaped (pd x) = true := viewP_dp r (by unfold viewP; rw [if_pos p])
theorem dps_of {ds : List D} {vs : List V} (r : RepVs K H ds vs) (p : pures? 60 ds = true) : DpAll K.F H vs (pds ds) ∧ SeqAt.shaped (.list (pds ds)) = true ∧ SeqAt.shaped (.tuple (pds ds)) = true := by
  obtain ⟨a, b⟩ := pds_dp 60 ds vs p r
  have := pds_depth 60 ds p
  refine ⟨a, ?_, ?_⟩
  · unfold SeqAt.shaped
    rw [decide_eq_true (show PyData.depth (.list (pds ds)) ≤ 64 by simp only [PyData.depth]; omega)]
    simp only [PyData.canLay0, b]; rfl
  · unfold SeqAt.shaped
    rw [decide_eq_true (show PyData.depth (.tuple (pds ds)) ≤ 64 by simp only [PyData.depth]; omega)]
    simp only [PyData.canLay0, b]; rfl
end
section
variable {X : Cx}
theorem od_in (hu : X.A.units + 65 < cLine) : OpR X (compareOp .In) (lowR X.kw inD) := by
  intro pins s σ H x y v u QV I rv ru ⟨d, e, h, Q, rx, ry, hH, hr, hc⟩
  have hr : inAny d e h fun b => Q (.bool b) h := hr
  have lst : ∀ {a : Addr} {vs : List V} {ds : List D}, y = .ref a → SqL X.K H a vs → RepVs X.kw H ds vs → inSeq d (fun b => Q (.bool b) h) ds → wpAny (model X.prog X.w) X.A (compareOp .In v u) (EP X pins σ QV) X.xe s := by
    rintro a vs ds rfl sq rs ⟨p1, p2, q⟩
    obtain ⟨a1, b1⟩ := dp_of rx p1
    obtain ⟨a2, b2, _⟩ := dps_of rs p2
    refine op_inD hu pins s σ H x _ v u QV I rv ru ⟨pd d, pds ds, a1, .lst sq a2, b1, b2, ?_⟩
    rw [any_pds]; exact hc.bl hH q
  cases e with
  | str z =>
    cases d <;> first | (exact hr.elim) | skip
    exact op_in_str pins s σ H x y v u QV I rv ru ⟨_, _, rx.1, ry.1, hc.bl hH hr⟩
  | tup ds =>
    obtain ⟨a, vs, rfl, sq, rs⟩ := ry
    obtain ⟨p1, p2, q⟩ := (show inSeq d (fun b => Q (.bool b) h) ds from hr)
    obtain ⟨a1, b1⟩ := dp_of rx p1
    obtain ⟨a2, _, b2⟩ := dps_of rs p2
    refine op_inT hu pins s σ H x _ v u QV I rv ru ⟨pd d, pds ds, a1, .tup sq a2, b1, b2, ?_⟩
    simp only [Bool.false_eq_true, if_false, if_true]
    rw [any_pds]; exact hc.bl hH q
  | rol ds =>
    obtain ⟨a, vs, ey, sq, rs⟩ := ry
    exact lst ey sq.sq rs hr
  | ref a =>
    have ey : y = .ref a := ry
    have hr : inO d (fun b => Q (.bool b) h) (h a) := hr
    cases q : h a with
    | none => rw [q] at hr; exact hr.elim
    | some o =>
      rw [q] at hr
      cases o with
      | lst ds =>
        obtain ⟨vs, eH, rs⟩ := hH a _ q
        exact lst ey (SqL.of eH) rs hr
      | dic kvs =>
        subst ey
        cases ru
        exact dd_in (by omega) I (hH a _ q) rx rv hr.1 fun s' I' => ⟨.bl _, H, I', rfl, hc.bl hH hr.2⟩
      | ins _ _ => exact hr.elim
      | fdic _ _ => exact hr.elim
  | _ => exact hr.elim
theorem od_notIn (hu : X.A.units + 65 < cLine) : OpR X (compareOp .NotIn) (lowR X.kw ninD) := by
  intro pins s σ H x y v u QV I rv ru ⟨d, e, h, Q, rx, ry, hH, hr, hc⟩
  have hr : inAny d e h fun b => Q (.bool (!b)) h := hr
  have lst : ∀ {a : Addr} {vs : List V} {ds : List D}, y = .ref a → SqL X.K H a vs → RepVs X.kw H ds vs → inSeq d (fun b => Q (.bool (!b)) h) ds → wpAny (model X.prog X.w) X.A (compareOp .NotIn v u) (EP X pins σ QV) X.xe s := by
    rintro a vs ds rfl sq rs ⟨p1, p2, q⟩
    obtain ⟨a1, b1⟩ := dp_of rx p1
    obtain ⟨a2, b2, _⟩ := dps_of rs p2
    refine op_notInD hu pins s σ H x _ v u QV I rv ru ⟨pd d, pds ds, a1, .lst sq a2, b1, b2, ?_⟩
    rw [any_pds]; exact hc.bl hH q
  cases e with
  | str z =>
    cases d <;> first | (exact hr.elim) | skip
    exact op_notIn_str pins s σ H x y v u QV I rv ru ⟨_, _, rx.1, ry.1, hc.bl hH hr⟩
  | tup ds =>
    obtain ⟨a, vs, rfl, sq, rs⟩ := ry
    obtain ⟨p1, p2, q⟩ := (show inSeq d (fun b => Q (.bool (!b)) h) ds from hr)
    obtain ⟨a1, b1⟩ := dp_of rx p1
    obtain ⟨a2, _, b2⟩ := dps_of rs p2
    refine op_notInT hu pins s σ H x _ v u QV I rv ru ⟨pd d, pds ds, a1, .tup sq a2, b1, b2, ?_⟩
    simp only [Bool.false_eq_true, if_false, if_true]
    rw [any_pds]; exact hc.bl hH q
  | rol ds =>
    obtain ⟨a, vs, ey, sq, rs⟩ := ry
    exact lst ey sq.sq rs hr
  | ref a =>
    have ey : y = .ref a := ry
    have hr : inO d (fun b => Q (.bool (!b)) h) (h a) := hr
    cases q : h a with
    | none => rw [q] at hr; exact hr.elim
    | some o =>
      rw [q] at hr
      cases o with
      | lst ds =>
        obtain ⟨vs, eH, rs⟩ := hH a _ q
        exact lst ey (SqL.of eH) rs hr
      | dic kvs =>
        subst ey
        cases ru
        exact dd_notIn (by omega) I (hH a _ q) rx rv hr.1 fun s' I' => ⟨.bl _, H, I', rfl, hc.bl hH hr.2⟩
      | ins _ _ => exact hr.elim
      | fdic _ _ => exact hr.elim
  | _ => exact hr.elim
/-! ### is None -/
def isNone : D → Bool
  | .none => true
  | _ => false
theorem none_rep {K : KW} {H : Hp} {d : D} {v : V} (r : RepV K H d v) : decide (v = .non) = isNone d := by
  cases d with
  | none => cases (show v = _ from r); rfl
  | bool _ => cases (show v = _ from r); rfl
  | int _ => cases (show v = _ from r); rfl
  | ref _ => cases (show v = _ from r); rfl
  | ty _ => cases (show v = _ from r); rfl
  | str _ => obtain ⟨rfl, _⟩ := r; rfl
  | tup _ => obtain ⟨a, vs, rfl, _⟩ := r; rfl
  | rol _ => obtain ⟨a, vs, rfl, _⟩ := r; rfl
def isB (x : D) (b : Bool) (h : MH) (Q : KD) : Prop := match x with
  | .bool a => Q (.bool (decide (a = b))) h
  | _ => False
def isD : R1 := fun x y h Q => match y with
  | .none => Q (.bool (isNone x)) h
  | .bool b => isB x b h Q
  | _ => False
def nisD : R1 := fun x y h Q => match y with
  | .none => Q (.bool (!isNone x)) h
  | _ => False
theorem od_is : OpR X (compareOp .Is) (lowR X.kw isD) := opR_of fun x y H QV ⟨d, e, h, Q, rx, ry, hH, hr, hc⟩ => by
  cases e <;> try exact hr.elim
  · cases (show y = _ from ry)
    refine ⟨_, op_isN, rfl, ?_⟩
    rw [none_rep rx]
    exact hc.bl hH hr
  · cases (show y = _ from ry)
    cases d <;> try exact hr.elim
    cases (show x = _ from rx)
    exact ⟨_, op_isBl, _, _, rfl, rfl, hc.bl hH hr⟩
theorem od_isnot : OpR X (compareOp .IsNot) (lowR X.kw nisD) := opR_of fun x y H QV ⟨d, e, h, Q, rx, ry, hH, hr, hc⟩ => by
  cases e <;> try exact hr.elim
  cases (show y = _ from ry)
  refine ⟨_, op_notN, rfl, ?_⟩
  rw [none_rep rx]
  exact hc.bl hH hr
end
/-! ### subscripts -/
def atD (h : MH) (i : Int) (Q : KD) : Option (List D) → Prop
  | some ds => match atI ds i with
    | some d => Q d h
    | none => False
  | none => False
def atS (z : Str) (i : Int) (h : MH) (Q : KD) : Prop := match atI z.cps.toList i with
  | some c => Q (.str ⟨#[c]⟩) h
  | none => False
def dgetK (h : MH) (Q : KD) : Option D → Prop
  | some v => Q v h
  | none => False
def ixDic (kvs : Kvs) (y : D) (h : MH) (Q : KD) : Prop := fit kvs y = true ∧ dgetK h Q (dget kvs y)
def ixSeq (ds : List D) (y : D) (h : MH) (Q : KD) : Prop := match y with
  | .int i => atD h i Q (some ds)
  | _ => False
def ixStr (z : Str) (y : D) (h : MH) (Q : KD) : Prop := match y with
  | .int i => atS z i h Q
  | _ => False
def ixO (y : D) (h : MH) (Q : KD) : Option MO → Prop
  | some (.lst ds) => ixSeq ds y h Q
  | some (.dic kvs) => ixDic kvs y h Q
  | some (.fdic _ kvs) => ixDic kvs y h Q
  | _ => False
def ixD : R1 := fun x y h Q => match x with
  | .str z => ixStr z y h Q
  | .tup ds => ixSeq ds y h Q
  | .rol ds => ixSeq ds y h Q
  | .ref a => ixO y h Q (h a)
  | _ => False
theorem atI_rep {α β : Type} {R : α → β → Prop} {xs : List α} {ys : List β} (p : Paired R xs ys) {i : Int} {x : α} (e : atI xs i = some x) : ∃ y, atI ys i = some y ∧ R x y := by
  unfold atI at e ⊢
  rw [← p.length]
  cases q : ixN xs.length i with
  | none => rw [q] at e; cases e
  | some j =>
    rw [q] at e
    exact P2.get p e
section
variable {X : Cx}
theorem ixR_of {r' : R2} (h : ∀ x y H Q, r' x y H Q → ∃ r, IxR X r ∧ r x y H Q) : IxR X r' := fun value slice pins s σ H x y v u Q I rx ry hr hs =>
  let ⟨r, ho, hq⟩ := h x y H Q hr
  ho value slice pins s σ H x y v u Q I rx ry hq hs
theorem xd_ix (hu : X.A.units + 64 < cLine) : IxR X (lowR X.kw ixD) := by
  intro value slice pins s σ H x y v u QV I rv ru ⟨d, e, h, Q, rx, ry, hH, hr, hc⟩ hs
  have sq : ∀ {a : Addr} {vs : List V} {ds : List D}, x = .ref a → (SqL X.K H a vs ∨ SqT X.K H a vs) → RepVs X.kw H ds vs → ixSeq ds e h Q → wpAny (model X.prog X.w) X.A (subscriptTail value slice v u) (EP X pins σ QV) X.xe s := by
    rintro a vs ds rfl hq rs hr
    cases e <;> first | (exact hr.elim) | skip
    rename_i i _
    cases (show y = _ from ry)
    have hr : atD h i Q (some ds) := hr
    unfold atD at hr
    simp only at hr
    cases e : atI ds i with
    | none => rw [e] at hr; exact hr.elim
    | some z =>
      rw [e] at hr
      obtain ⟨w, hw, rw'⟩ := atI_rep rs.pair e
      rcases hq with hq | hq
      · exact ix_list value slice pins s σ H _ _ v u QV I rv ru ⟨a, vs, i, w, rfl, rfl, hq, hw, hc.val hH rw' hr⟩ hs
      · exact ix_tup value slice pins s σ H _ _ v u QV I rv ru ⟨a, vs, i, w, rfl, rfl, hq, hw, hc.val hH rw' hr⟩ hs
  cases d with
  | str z =>
    obtain ⟨rfl, ok⟩ := rx
    have hr : ixStr z e h Q := hr
    cases e <;> first | (exact hr.elim) | skip
    rename_i i _
    cases (show y = _ from ry)
    have hr : atS z i h Q := hr
    unfold atS at hr
    cases e : atI z.cps.toList i with
    | none => rw [e] at hr; exact hr.elim
    | some c =>
      rw [e] at hr
      exact ix_str value slice pins s σ H _ _ v u QV I rv ru ⟨z, i, c, rfl, rfl, ok.1, e, hc.str hH (ok.one e) hr⟩ hs
  | tup ds => obtain ⟨a, vs, ex, st, rs⟩ := rx; exact sq ex (.inr st) rs hr
  | rol ds => obtain ⟨a, vs, ex, st, rs⟩ := rx; exact sq ex (.inl st.sq) rs hr
  | ref a =>
    have ex : x = .ref a := rx
    have hr : ixO e h Q (h a) := hr
    cases q : h a with
    | none => rw [q] at hr; exact hr.elim
    | some o =>
      rw [q] at hr
      cases o with
      | lst ds =>
        obtain ⟨vs, eH, rs⟩ := hH a _ q
        exact sq ex (.inl (SqL.of eH)) rs hr
      | dic kvs =>
        subst ex
        cases rv
        obtain ⟨ft, hr⟩ := (show ixDic kvs e h Q from hr)
        cases g : dget kvs e with
        | none => rw [g] at hr; exact hr.elim
        | some f =>
          rw [g] at hr
          exact tail_any (dic_type I (hH a _ q)) PySem.F.slot_dict_getitem.lookup (dd_getItem hu I (hH a _ q) ry ru ft g fun w' s' I' ⟨z, rz, rf⟩ => ⟨z, H, I', rz, hc.val hH rf hr⟩) hs
      | ins _ _ => exact hr.elim
      | fdic o kvs =>
        subst ex
        cases rv
        obtain ⟨ft, hr⟩ := (show ixDic kvs e h Q from hr)
        cases g : dget kvs e with
        | none => rw [g] at hr; exact hr.elim
        | some f =>
          rw [g] at hr
          have R : RepF X.kw H a o kvs := hH a _ q
          exact tail_any (R.type I) PySem.F.slot_dict_getitem.lookup (ff_getItem hu I R ry ru ft g fun w' s' I' ⟨z, rz, rf⟩ => ⟨z, H, I', rz, hc.val hH rf hr⟩) hs
  | _ => exact hr.elim
theorem de_ix (hu : X.A.units + 64 < cLine) {a b : Expr} {ta tb : E1} {pos : Pos} (ha : DE X a ta) (hb : DE X b tb) (hs : PlainIx b) : DE X (.Subscript a b pos) (dOp ixD ta tb) := weakE (pe_ix (xd_ix hu) ha hb hs) fun _ _ _ h => low_op h
/-! ### slices -/
abbrev O1 := Sl → MH → (Option Int → MH → Prop) → Prop
def ClO (K : KW) (h : MH) (H : Hp) (Q : Option Int → MH → Prop) (QV : Option Int → Hp → Prop) : Prop := ∀ b h' H', Stp h H h' H' → RepH K h' H' → Q b h' → QV b H'
def lowO (K : KW) (t : O1) : TO := fun σV H QV => ∃ σ h Q, RepE K H σ σV ∧ RepH K h H ∧ t σ h Q ∧ ClO K h H Q QV
abbrev DO (X : Cx) (e : Option Expr) (t : O1) : Prop := PO X e (lowO X.kw t)
def dNoPart : O1 := fun _ h Q => Q none h
def dPart (t : E1) : O1 := fun σ h Q => t σ h fun x h1 => match x with | .int i => Q (some i) h1 | _ => False
theorem weakO {e : Option Expr} {t t' : TO} (p : PO X e t) (w : ∀ σ H Q, t' σ H Q → t σ H Q) : PO X e t' := ⟨fun pins s σ H Q I h => p.run pins s σ H Q I (w σ H Q h)⟩
theorem do_none : DO X none dNoPart := weakO po_none fun σV H QV ⟨σ, h, Q, hE, hH, ht, hc⟩ => hc none h H Stp.refl hH ht
theorem do_some {e : Expr} {t : E1} (p : DE X e t) : DO X (some e) (dPart t) := weakO (po_some p) fun σV H QV ⟨σ, h, Q, hE, hH, ht, hc⟩ =>
  ⟨σ, h, _, hE, hH, ht, fun d h' v H' s' r' rv q => by
    cases d with
    | int i => exact ⟨i, rv, hc (some i) h' H' s' r' q⟩
    | _ => exact q.elim⟩
def cutD (ds : List D) (lo hi : Option Int) : List D := (ds.drop (HT.sIx ds.length 0 lo)).take (HT.sIx ds.length ds.length hi - HT.sIx ds.length 0 lo)
def slL (h : MH) (lo hi : Option Int) (Q : KD) : Option MO → Prop
  | some (.lst ds) => ∀ l, h l = none → Q (.ref l) (up h l (.lst (cutD ds lo hi)))
  | _ => False
def slD (x : D) (lo hi : Option Int) (h : MH) (Q : KD) : Prop := match x with
  | .str z => Q (.str (cutS z lo hi)) h
  | .tup ds => Q (.tup (cutD ds lo hi)) h
  | .rol ds => ∀ l, h l = none → Q (.ref l) (up h l (.lst (cutD ds lo hi)))
  | .ref a => slL h lo hi Q (h a)
  | _ => False
def dSl (t : E1) (tl tu : O1) : E1 := fun σ h Q => t σ h fun x h1 => tl σ h1 fun lo h2 => tu σ h2 fun hi h3 => slD x lo hi h3 Q
def lowSl (K : KW) (r : D → Option Int → Option Int → MH → KD → Prop) : V → Option Int → Option Int → Hp → VK → Prop := fun x lo hi H QV => ∃ d h Q, RepV K H d x ∧ RepH K h H ∧ r d lo hi h Q ∧ Cl K h H Q QV
theorem slR_of {r' : V → Option Int → Option Int → Hp → VK → Prop} (h : ∀ x lo hi H Q, r' x lo hi H Q → ∃ r, SlR X r ∧ r x lo hi H Q) : SlR X r' := fun pins s σ H x v vl vu lo hi sl Q I rx hs pl pu hr =>
  let ⟨r, ho, hq⟩ := h x lo hi H Q hr
  ho pins s σ H x v vl vu lo hi sl Q I rx hs pl pu hq
theorem cut_rep {K : KW} {H : Hp} {ds : List D} {vs : List V} (r : RepVs K H ds vs) (lo hi : Option Int) : RepVs K H (cutD ds lo hi) (cutV vs lo hi) := by
  unfold cutD cutV
  rw [r.length]
  exact .of (P2.take _ (P2.drop _ r.pair))
theorem cut_whole {α : Type} (vs : List α) (i j : Nat) (h : i = 0 ∧ j = vs.length) : (vs.drop i).take (j - i) = vs := by
  obtain ⟨rfl, rfl⟩ := h
  simp
theorem xd_sl : SlR X (lowSl X.kw slD) := slR_of fun x lo hi H QV ⟨d, h, Q, rx, hH, hr, hc⟩ => by
  cases d with
  | str z =>
    obtain ⟨rfl, ok⟩ := rx
    exact ⟨_, sl_str, z, rfl, ok.1, hc.str hH (ok.cut lo hi) hr⟩
  | tup ds =>
    obtain ⟨a, vs, rfl, s, r⟩ := rx
    have rc := cut_rep r lo hi
    refine ⟨_, sl_tupA, a, vs, rfl, s, fun z => ?_, fun _ l n => hc.tup hH n rc hr⟩
    have e : cutD ds lo hi = ds := by
      unfold cutD
      rw [r.length]
      exact cut_whole ds _ _ ⟨z.1, by rw [r.length]; exact z.2⟩
    have hr : Q (.tup (cutD ds lo hi)) h := hr
    rw [e] at hr
    exact hc.val hH (d := .tup ds) ⟨a, vs, rfl, s, r⟩ hr
  | rol ds =>
    obtain ⟨a, vs, rfl, s, r⟩ := rx
    exact ⟨_, sl_list, a, vs, rfl, s.sq, fun l n => hc.new hH n (cut_rep r lo hi) (hr l (hH.nofresh n))⟩
  | ref a =>
    cases (show x = _ from rx)
    have hr : slL h lo hi Q (h a) := hr
    cases q : h a with
    | none => rw [q] at hr; exact hr.elim
    | some o =>
      cases o with
      | lst ds =>
        rw [q] at hr
        obtain ⟨vs, e, r⟩ := hH _ _ q
        exact ⟨_, sl_list, a, vs, rfl, SqL.of e, fun l n => hc.new hH n (cut_rep r lo hi) (hr l (hH.nofresh n))⟩
      | dic _ => rw [q] at hr; exact hr.elim
      | ins _ _ => rw [q] at hr; exact hr.elim
      | fdic _ _ => rw [q] at hr; exact hr.elim
  | _ => exact hr.elim
theorem de_slice {e : Expr} {lo hi : Option Expr} {te : E1} {tl tu : O1} {p2 pos : Pos} (he : DE X e te) (hl : DO X lo tl) (hu : DO X hi tu) : DE X (.Subscript e (.Slice lo hi none p2) pos) (dSl te tl tu) :=
  weakE (pe_slice xd_sl he hl hu) fun σV H QV ⟨σ, h, Q, hE, hH, ht, hc⟩ => by
    refine ⟨σ, h, _, hE, hH, ht, fun x h1 v1 H1 s1 hH1 r1 q1 => ?_⟩
    refine ⟨σ, h1, _, hE.mono (Stp.mo hH s1), hH1, q1, fun l h2 H2 s2 hH2 q2 => ?_⟩
    refine ⟨σ, h2, _, (hE.mono (Stp.mo hH s1)).mono (Stp.mo hH1 s2), hH2, q2, fun u h3 H3 s3 hH3 q3 => ?_⟩
    exact ⟨x, h3, Q, RepV.mono ((Stp.mo hH1 s2).trans (Stp.mo hH2 s3)) _ r1, hH3, q3, hc.step (s1.trans (s2.trans s3))⟩
/-! ### one-place operators -/
def negD (x : D) (h : MH) (Q : KD) : Prop := match x with
  | .int i => Q (.int (-i)) h
  | _ => False
def dUn (r : D → MH → KD → Prop) (t : E1) : E1 := fun σ h Q => t σ h fun x h1 => r x h1 Q
theorem de_neg {a : Expr} {ta : E1} {pos : Pos} (ha : DE X a ta) : DE X (.UnaryOp .USub a pos) (dUn negD ta) := weakE (pe_un un_neg ha) fun σV H QV ⟨σ, h, Q, hE, hH, ht, hc⟩ =>
  ⟨σ, h, _, hE, hH, ht, fun d h' v H' s' r' rv q => by
    cases d with
    | int i => exact ⟨i, rv, (hc.step s').int r' q⟩
    | _ => exact q.elim⟩
/-! ### tests -/
def asB (Q : Bool → MH → Prop) : KD := fun x h => match x with | .bool k => Q k h | _ => False
def dTest (t : E1) : T1 := fun σ h Q => t σ h (asB Q)
theorem asB_cl {K : KW} {h : MH} {H : Hp} {Q : Bool → MH → Prop} {QV : Bool → Hp → Prop} (hc : ClB K h H Q QV) : Cl K h H (asB Q) fun v H' => ∃ k, v = .bl k ∧ QV k H' := fun d h' v H' s' r' rv q => by
  cases d with
  | bool k => exact ⟨k, rv, hc k h' H' s' r' q⟩
  | _ => exact q.elim
theorem dt_cmpR {op : CmpOp} {r : R1} {a b : Expr} {ta tb : E1} {pos : Pos} (ho : OpR X (compareOp op) (lowR X.kw r)) (ha : DE X a ta) (hb : DE X b tb) (hm : behindInMarks op b = false) : DT X (.Compare a [op] [b] pos) (dTest (dOp r ta tb)) :=
  weakT (pt_cmpR ho ha hb hm) fun σV H QV ⟨σ, h, Q, hE, hH, ht, hc⟩ => low_op ⟨σ, h, asB Q, hE, hH, ht, asB_cl hc⟩
def truL (h : MH) (Q : Bool → MH → Prop) : Option (List D) → Prop
  | some ds => Q (!ds.isEmpty) h
  | none => False
def truD (x : D) (h : MH) (Q : Bool → MH → Prop) : Prop := match x with
  | .none => Q false h
  | .bool b => Q b h
  | .int i => Q (i != 0) h
  | .str z => Q (z.length != 0) h
  | x => truL h Q (seqOf h x)
def dTru (t : E1) : T1 := fun σ h Q => t σ h fun x h1 => truD x h1 Q
theorem isEmpty_rep {α β : Type} {R : α → β → Prop} {xs : List α} {ys : List β} (p : Paired R xs ys) : (!ys.isEmpty) = !xs.isEmpty := by cases p <;> rfl
theorem dt_tru {a : Expr} {ta : E1} (ha : DE X a ta) (he : ∀ whole, isTrue a X.env whole = (do let v ← whole; standAt a.pos; holding [v] (truthy v)) := by intro _; rfl) : DT X a (dTru ta) :=
  weakT (pt_truth ha he) fun σV H QV ⟨σ, h, Q, hE, hH, ht, hc⟩ => ⟨σ, h, _, hE, hH, ht, fun d h' v H' s' hH' rv q => by
    have fin : ∀ k, Q k h' → QV k H' := fun k z => hc k h' H' s' hH' z
    have sq : truL h' Q (seqOf h' d) → ∃ k, TruV X.K v H' k ∧ QV k H' := fun q => by
      cases e : seqOf h' d with
      | none => rw [e] at q; exact q.elim
      | some ds =>
        rw [e] at q
        obtain ⟨a, vs, rfl, r, hs⟩ := seq_rep hH' rv e
        refine ⟨_, ?_, fin _ q⟩
        rcases hs with hs | hs
        · exact .inl ⟨vs, hs, (isEmpty_rep r.pair).symm⟩
        · exact .inr (.inl ⟨vs, hs, (isEmpty_rep r.pair).symm⟩)
    cases d with
    | none => cases (show v = _ from rv); exact ⟨_, rfl, fin _ q⟩
    | bool b => cases (show v = _ from rv); exact ⟨_, rfl, fin _ q⟩
    | int b => cases (show v = _ from rv); exact ⟨_, rfl, fin _ q⟩
    | str z =>
      obtain ⟨rfl, ok⟩ := rv
      refine ⟨_, ⟨ok.1, rfl⟩, ?_⟩
      have e : (((z.length : Nat) : Int) != 0) = (z.length != 0) := by
        by_cases y : z.length = 0
        · rw [y]; rfl
        · rw [bne_iff_ne.mpr y, bne_iff_ne.mpr (by omega)]
      rw [e]
      exact fin _ q
    | _ => exact sq q⟩
def dAndT (t u : T1) : T1 := fun σ h Q => t σ h fun c h1 => if c = true then u σ h1 Q else Q false h1
def dOrT (t u : T1) : T1 := fun σ h Q => t σ h fun c h1 => if c = true then Q true h1 else u σ h1 Q
def dNotT (t : T1) : T1 := fun σ h Q => t σ h fun c h1 => Q (!c) h1
abbrev DW (X : Cx) (e : Expr) (t : T1) : Prop := PW X e (lowT X.kw t)
theorem weakW {e : Expr} {t t' : TT} (p : PW X e t) (w : ∀ σ H Q, t' σ H Q → t σ H Q) : PW X e t' := ⟨fun wh pins s σ H Q I h => p.run wh pins s σ H Q I (w σ H Q h)⟩
theorem dw_and1 {a : Expr} {ta : T1} {pos : Pos} (ha : DT X a ta) : DW X (.BoolOp .And [a] pos) ta := pw_and1 ha
theorem dw_or1 {a : Expr} {ta : T1} {pos : Pos} (ha : DT X a ta) : DW X (.BoolOp .Or [a] pos) ta := pw_or1 ha
theorem dw_and {a b : Expr} {rest : List Expr} {ta tb : T1} {pos : Pos} (ha : DT X a ta) (hb : DW X (.BoolOp .And (b :: rest) pos) tb) : DW X (.BoolOp .And (a :: b :: rest) pos) (dAndT ta tb) :=
  weakW (pw_and ha hb) fun σV H QV ⟨σ, h, Q, hE, hH, ht, hc⟩ => ⟨σ, h, _, hE, hH, ht, fun c h1 H1 s1 hH1 q => by
    cases c with
    | true => rw [if_pos rfl] at q ⊢; exact ⟨σ, h1, Q, hE.mono (Stp.mo hH s1), hH1, q, hc.step s1⟩
    | false => rw [if_neg Bool.false_ne_true] at q ⊢; exact hc _ _ _ s1 hH1 q⟩
theorem dw_or {a b : Expr} {rest : List Expr} {ta tb : T1} {pos : Pos} (ha : DT X a ta) (hb : DW X (.BoolOp .Or (b :: rest) pos) tb) : DW X (.BoolOp .Or (a :: b :: rest) pos) (dOrT ta tb) :=
  weakW (pw_or ha hb) fun σV H QV ⟨σ, h, Q, hE, hH, ht, hc⟩ => ⟨σ, h, _, hE, hH, ht, fun c h1 H1 s1 hH1 q => by
    cases c with
    | false => rw [if_neg Bool.false_ne_true] at q ⊢; exact ⟨σ, h1, Q, hE.mono (Stp.mo hH s1), hH1, q, hc.step s1⟩
    | true => rw [if_pos rfl] at q ⊢; exact hc _ _ _ s1 hH1 q⟩
theorem dt_w {e : Expr} {t : T1} (p : DW X e t) : DT X e t := PW.pt p
theorem dt_not {a : Expr} {ta : T1} {pos : Pos} (ha : DT X a ta) : DT X (.UnaryOp .Not a pos) (dNotT ta) :=
  weakT (pt_not ha) fun σV H QV ⟨σ, h, Q, hE, hH, ht, hc⟩ => ⟨σ, h, _, hE, hH, ht, fun c h1 H1 s1 hH1 q => hc _ _ _ s1 hH1 q⟩
/-! .. as values -/
def dAndV (t u : E1) : E1 := fun σ h Q => t σ h (asB fun c h1 => if c = true then u σ h1 Q else Q (.bool false) h1)
def dOrV (t u : E1) : E1 := fun σ h Q => t σ h (asB fun c h1 => if c = true then Q (.bool true) h1 else u σ h1 Q)
def dNotV (t : E1) : E1 := fun σ h Q => t σ h (asB fun c h1 => Q (.bool (!c)) h1)
theorem de_one {op} {a : Expr} {t : E1} {pos : Pos} (h : DE X a t) : DE X (.BoolOp op [a] pos) t := pe_one h
theorem de_and {a b : Expr} {rest : List Expr} {ta tb : E1} {pos : Pos} (ha : DE X a ta) (hb : DE X (.BoolOp .And (b :: rest) pos) tb) : DE X (.BoolOp .And (a :: b :: rest) pos) (dAndV ta tb) :=
  weakE (pe_and ha hb) fun σV H QV ⟨σ, h, Q, hE, hH, ht, hc⟩ => ⟨σ, h, _, hE, hH, ht, fun d h1 v H1 s1 hH1 rv q => by
    cases d with
    | bool c =>
      refine ⟨c, rv, ?_⟩
      have q : if c = true then tb σ h1 Q else Q (.bool false) h1 := q
      cases c with
      | true => rw [if_pos rfl] at q ⊢; exact ⟨σ, h1, Q, hE.mono (Stp.mo hH s1), hH1, q, hc.step s1⟩
      | false => rw [if_neg Bool.false_ne_true] at q ⊢; exact (hc.step s1).bl hH1 q
    | _ => exact q.elim⟩
theorem de_or {a b : Expr} {rest : List Expr} {ta tb : E1} {pos : Pos} (ha : DE X a ta) (hb : DE X (.BoolOp .Or (b :: rest) pos) tb) : DE X (.BoolOp .Or (a :: b :: rest) pos) (dOrV ta tb) :=
  weakE (pe_or ha hb) fun σV H QV ⟨σ, h, Q, hE, hH, ht, hc⟩ => ⟨σ, h, _, hE, hH, ht, fun d h1 v H1 s1 hH1 rv q => by
    cases d with
    | bool c =>
      refine ⟨c, rv, ?_⟩
      have q : if c = true then Q (.bool true) h1 else tb σ h1 Q := q
      cases c with
      | false => rw [if_neg Bool.false_ne_true] at q ⊢; exact ⟨σ, h1, Q, hE.mono (Stp.mo hH s1), hH1, q, hc.step s1⟩
      | true => rw [if_pos rfl] at q ⊢; exact (hc.step s1).bl hH1 q
    | _ => exact q.elim⟩
theorem de_not {a : Expr} {ta : E1} {pos : Pos} (ha : DE X a ta) : DE X (.UnaryOp .Not a pos) (dNotV ta) :=
  weakE (pe_not ha) fun σV H QV ⟨σ, h, Q, hE, hH, ht, hc⟩ => ⟨σ, h, _, hE, hH, ht, fun d h1 v H1 s1 hH1 rv q => by
    cases d with
    | bool c => exact ⟨c, rv, (hc.step s1).bl hH1 q⟩
    | _ => exact q.elim⟩
def dIf (t : T1) (ta tb : E1) : E1 := fun σ h Q => t σ h fun c h1 => if c = true then ta σ h1 Q else tb σ h1 Q
theorem de_ifExp {c a b : Expr} {tc : T1} {ta tb : E1} {pos : Pos} (hc : DT X c tc) (ha : DE X a ta) (hb : DE X b tb) : DE X (.IfExp c a b pos) (dIf tc ta tb) :=
  weakE (pe_ifExp hc ha hb) fun σV H QV ⟨σ, h, Q, hE, hH, ht, hc⟩ => ⟨σ, h, _, hE, hH, ht, fun c h1 H1 s1 hH1 q => by
    cases c with
    | true => rw [if_pos rfl] at q ⊢; exact ⟨σ, h1, Q, hE.mono (Stp.mo hH s1), hH1, q, hc.step s1⟩
    | false => rw [if_neg Bool.false_ne_true] at q ⊢; exact ⟨σ, h1, Q, hE.mono (Stp.mo hH s1), hH1, q, hc.step s1⟩⟩
/-! a < b < c -/
def dChain (r r' : R1) (ta tb tc : E1) : E1 := fun σ h Q => ta σ h fun x h1 => tb σ h1 fun y h2 => r x y h2 (asB fun k h3 => if k = true then tc σ h3 fun z h4 => r' y z h4 Q else Q (.bool false) h3)
end
end DL
namespace DL
open PySem PySem.Spec PyProof.Rows L2
/-! ### statements -/
structure Nd where
  nx : Sl → MH → Prop
  rt : KD
  bk : Sl → MH → Prop := fun _ _ => False
  ct : Sl → MH → Prop := fun _ _ => False
abbrev S1 := Nd → Sl → MH → Prop
def ClN (K : KW) (h : MH) (H : Hp) (n : Sl → MH → Prop) (nV : L2.St → Hp → Prop) : Prop := ∀ σ' h' σV' H', Stp h H h' H' → RepE K H' σ' σV' → RepH K h' H' → n σ' h' → nV σV' H'
structure ClS (K : KW) (h : MH) (H : Hp) (D : Nd) (DV : Ends) : Prop where
  nx : ClN K h H D.nx DV.nx
  rt : Cl K h H D.rt DV.rt
  bk : ClN K h H D.bk DV.bk
  ct : ClN K h H D.ct DV.ct
theorem ClN.step {K : KW} {h h1 : MH} {H H1 : Hp} {n : Sl → MH → Prop} {nV : L2.St → Hp → Prop} (s : Stp h H h1 H1) (c : ClN K h H n nV) : ClN K h1 H1 n nV := fun a b d e s' x y z => c a b d e (s.trans s') x y z
theorem ClS.step {K : KW} {h h1 : MH} {H H1 : Hp} {D : Nd} {DV : Ends} (s : Stp h H h1 H1) (c : ClS K h H D DV) : ClS K h1 H1 D DV := ⟨c.nx.step s, c.rt.step s, c.bk.step s, c.ct.step s⟩
def lowS (K : KW) (t : S1) : TS := fun DV σV H => ∃ D σ h, RepE K H σ σV ∧ RepH K h H ∧ t D σ h ∧ ClS K h H D DV
theorem weakS {X : Cx} {e : Stmt} {t t' : TS} (p : PS X e t) (w : ∀ D σ H, t' D σ H → t D σ H) : PS X e t' := ⟨fun pins s σ H D I h => p.run pins s σ H D I (w D σ H h)⟩
theorem weakSs {X : Cx} {e : List Stmt} {t t' : TS} (p : PSs X e t) (w : ∀ D σ H, t' D σ H → t D σ H) : PSs X e t' := ⟨fun pins s σ H D I h => p.run pins s σ H D I (w D σ H h)⟩
abbrev DS (X : Cx) (st : Stmt) (t : S1) : Prop := PS X st (lowS X.kw t)
abbrev DSs (X : Cx) (st : List Stmt) (t : S1) : Prop := PSs X st (lowS X.kw t)
section
variable {X : Cx}
def dNext : S1 := fun D σ h => D.nx σ h
def dSeq (t u : S1) : S1 := fun D σ h => t { D with nx := u D } σ h
theorem dss_nil : DSs X [] dNext := weakSs pss_nil fun DV σV H ⟨D, σ, h, hE, hH, ht, hc⟩ => hc.nx σ h σV H Stp.refl hE hH ht
theorem dss_one {st : Stmt} {t : S1} (a : DS X st t) : DSs X [st] t := pss_one a
theorem dss_cons {st : Stmt} {rest : List Stmt} {t u : S1} (a : DS X st t) (b : DSs X rest u) : DSs X (st :: rest) (dSeq t u) := weakSs (pss_cons a b) fun DV σV H ⟨D, σ, h, hE, hH, ht, hc⟩ =>
  ⟨{ D with nx := u D }, σ, h, hE, hH, ht, ⟨fun σ' h' σV' H' s' e' r' q => ⟨D, σ', h', e', r', q, hc.step s'⟩, hc.rt, hc.bk, hc.ct⟩⟩
def dBrk : S1 := fun D σ h => D.bk σ h
def dCnt : S1 := fun D σ h => D.ct σ h
theorem ds_pass {pos : Pos} : DS X (.Pass pos) dNext := weakS ps_pass fun DV σV H ⟨D, σ, h, hE, hH, ht, hc⟩ => hc.nx σ h σV H Stp.refl hE hH ht
theorem ds_break {pos : Pos} : DS X (.Break pos) dBrk := weakS ps_break fun DV σV H ⟨D, σ, h, hE, hH, ht, hc⟩ => hc.bk σ h σV H Stp.refl hE hH ht
theorem ds_continue {pos : Pos} : DS X (.Continue pos) dCnt := weakS ps_continue fun DV σV H ⟨D, σ, h, hE, hH, ht, hc⟩ => hc.ct σ h σV H Stp.refl hE hH ht
theorem ds_doc {x j pos pos'} : DS X (.Expr (.Constant (.str x) j pos) pos') dNext := weakS ps_doc fun DV σV H ⟨D, σ, h, hE, hH, ht, hc⟩ => hc.nx σ h σV H Stp.refl hE hH ht
def dDrop (t : E1) : S1 := fun D σ h => t σ h fun _ h1 => D.nx σ h1
theorem ds_expr {e : Expr} {t : E1} {pos : Pos} (p : DE X e t) (hs : swapsWith e none pos.line X.env = pure false := by rfl) : DS X (.Expr e pos) (dDrop t) := weakS (ps_expr p hs) fun DV σV H ⟨D, σ, h, hE, hH, ht, hc⟩ =>
  ⟨σ, h, _, hE, hH, ht, fun d h' v H' s' r' rv q => hc.nx σ h' σV H' s' (hE.mono (Stp.mo hH s')) r' q⟩
def dRet (t : E1) : S1 := fun D σ h => t σ h D.rt
theorem ds_ret {e : Expr} {t : E1} {pos : Pos} (p : DE X e t) : DS X (.Return (some e) pos) (dRet t) := weakS (ps_ret p) fun DV σV H ⟨D, σ, h, hE, hH, ht, hc⟩ => ⟨σ, h, _, hE, hH, ht, hc.rt⟩
def dRetN : S1 := fun D _ h => D.rt .none h
theorem ds_retN {pos : Pos} : DS X (.Return none pos) dRetN := weakS ps_retN fun DV σV H ⟨D, σ, h, hE, hH, ht, hc⟩ => hc.rt.non hH ht
def dIfS (c : T1) (t u : S1) : S1 := fun D σ h => c σ h fun b h1 => if b = true then t D σ h1 else u D σ h1
theorem ds_if {c : Expr} {a b : List Stmt} {tc : T1} {t u : S1} {pos : Pos} (hc : DT X c tc) (ha : DSs X a t) (hb : DSs X b u) : DS X (.If c a b pos) (dIfS tc t u) := weakS (ps_if hc ha hb) fun DV σV H ⟨D, σ, h, hE, hH, ht, hc⟩ =>
  ⟨σ, h, _, hE, hH, ht, fun b h' H' s' r' q => by
    cases b with
    | true => rw [if_pos rfl] at q ⊢; exact ⟨D, σ, h', hE.mono (Stp.mo hH s'), r', q, hc.step s'⟩
    | false => rw [if_neg Bool.false_ne_true] at q ⊢; exact ⟨D, σ, h', hE.mono (Stp.mo hH s'), r', q, hc.step s'⟩⟩
/-! ### targets; P: what the stores leave alone -/
structure Pr where
  rel : L2.St → L2.St → Prop
  re : ∀ a, rel a a
  tr : ∀ a b c, rel a b → rel b c → rel a c
def P0 : Pr := ⟨fun _ _ => True, fun _ => trivial, fun _ _ _ _ _ => trivial⟩
def Pw (vs : List Nat) : Pr := ⟨fun a b => wipe b vs = wipe a vs, fun _ => rfl, fun a b c h k => k.trans h⟩
abbrev G1 := D → Sl → MH → (Sl → MH → Prop) → Prop
abbrev Gs1 := List D → Sl → MH → (Sl → MH → Prop) → Prop
def ClG (K : KW) (P : Pr) (σV : L2.St) (h : MH) (H : Hp) (n : Sl → MH → Prop) (nV : L2.St → Hp → Prop) : Prop := ∀ σ' h' σV' H', P.rel σV σV' → Stp h H h' H' → RepE K H' σ' σV' → RepH K h' H' → n σ' h' → nV σV' H'
def lowG (K : KW) (P : Pr) (g : G1) : TG := fun v σV H QV => ∃ d σ h Q, RepV K H d v ∧ RepE K H σ σV ∧ RepH K h H ∧ g d σ h Q ∧ ClG K P σV h H Q QV
def lowGs (K : KW) (P : Pr) (g : Gs1) : TGs := fun vs σV H QV => ∃ ds σ h Q, RepVs K H ds vs ∧ RepE K H σ σV ∧ RepH K h H ∧ g ds σ h Q ∧ ClG K P σV h H Q QV
abbrev DG (X : Cx) (P : Pr) (e : Expr) (g : G1) : Prop := PG X e (lowG X.kw P g)
abbrev DGs (X : Cx) (P : Pr) (es : List Expr) (g : Gs1) : Prop := PGs X es (lowGs X.kw P g)
theorem weakG {e : Expr} {t t' : TG} (p : PG X e t) (w : ∀ v σ H Q, t' v σ H Q → t v σ H Q) : PG X e t' := ⟨fun pins s σ H v u Q I r h => p.run pins s σ H v u Q I r (w v σ H Q h)⟩
theorem weakGs {e : List Expr} {t t' : TGs} (p : PGs X e t) (w : ∀ v σ H Q, t' v σ H Q → t v σ H Q) : PGs X e t' := ⟨fun pins s σ H v u Q I r h => p.run pins s σ H v u Q I r (w v σ H Q h)⟩
def gN (i : Nat) : G1 := fun d σ h Q => Q (put σ i (some d)) h
def OkAt (P : Pr) (i : Nat) : Prop := ∀ σ v, P.rel σ (σ.set i (some v))
theorem okAt0 {i : Nat} : OkAt P0 i := fun _ _ => trivial
theorem wipe_put {i : Nat} {x : Option V} : ∀ (vs : List Nat) (σ : L2.St), i ∈ vs → wipe (σ.set i x) vs = wipe σ vs
  | [], _, h => by cases h
  | v :: vs, σ, h => by
    have out : ∀ (vs : List Nat) (τ : L2.St), i ∉ vs → wipe (τ.set i x) vs = (wipe τ vs).set i x := by
      intro vs
      induction vs with
      | nil => intro τ _; rfl
      | cons u us ih =>
        intro τ hn
        rw [List.mem_cons, not_or] at hn
        show (wipe (τ.set i x) us).set u none = ((wipe τ us).set u none).set i x
        rw [ih τ hn.2, List.set_comm _ _ hn.1]
    show (wipe (σ.set i x) vs).set v none = (wipe σ vs).set v none
    by_cases m : i ∈ vs
    · rw [wipe_put vs σ m]
    · have e : i = v := by
        rcases List.mem_cons.mp h with e | e
        · exact e
        · exact absurd e m
      subst e
      rw [out vs σ m, List.set_set]
theorem okAtW {vs : List Nat} {i : Nat} (h : i ∈ vs) : OkAt (Pw vs) i := fun σ v => wipe_put vs σ h
theorem dg_name (i : Nat) {P : Pr} (ok : OkAt P i) {x : Str} {pos : Pos} (hN : X.N.Nodup) (hi : X.N[i]? = some x) (hx : Loc X.env.scope x) (hf : X.fn x = true ∨ X.env.scope.names.lookup x = some .local := by first | exact .inl rfl | exact .inr rfl | assumption) : DG X P (.Name x pos) (gN i) :=
  weakG (pg_name hN hi hx hf) fun v σV H QV ⟨d, σ, h, Q, rv, hE, hH, hg, hc⟩ => hc _ h _ H (ok σV v) Stp.refl (hE.put rv) hH hg
def gNl : Gs1 := fun ds σ h Q => match ds with
  | [] => Q σ h
  | _ :: _ => False
def gCn (g : G1) (gs : Gs1) : Gs1 := fun ds σ h Q => match ds with
  | [] => False
  | d :: r => g d σ h fun σ' h' => gs r σ' h' Q
theorem dgs_nil {P : Pr} : DGs X P [] gNl := weakGs pgs_nil fun v σV H QV ⟨ds, σ, h, Q, rv, hE, hH, hg, hc⟩ => by
  cases ds with
  | nil => exact ⟨rv, hc σ h σV H (P.re _) Stp.refl hE hH hg⟩
  | cons d r => exact hg.elim
theorem dgs_cons {P : Pr} {e : Expr} {es : List Expr} {g : G1} {gs : Gs1} (a : DG X P e g) (b : DGs X P es gs) (hs : (assignEach (e :: es) X.env).map (·.2) = assign e X.env :: (assignEach es X.env).map (·.2) := by rfl) : DGs X P (e :: es) (gCn g gs) :=
  weakGs (pgs_cons a b hs) fun v σV H QV ⟨ds, σ, h, Q, rv, hE, hH, hg, hc⟩ => by
    cases ds with
    | nil => exact hg.elim
    | cons d r =>
      obtain ⟨w, us, rfl, r1, r2⟩ := rv
      refine ⟨w, us, rfl, d, σ, h, _, r1, hE, hH, hg, fun σ' h' σV' H' p' s' e' r' q => ?_⟩
      exact ⟨r, σ', h', Q, RepVs.mono (Stp.mo hH s') _ r2, e', r', q, fun σ2 h2 σV2 H2 p2 s2 e2 z2 q2 => hc σ2 h2 σV2 H2 (P.tr _ _ _ p' p2) (s'.trans s2) e2 z2 q2⟩
def gTp (n : Nat) (gs : Gs1) : G1 := fun d σ h Q => match d with
  | .tup ds => ds.length = n ∧ gs ds σ h Q
  | _ => False
theorem dg_tup {P : Pr} {es : List Expr} {k : Nat} {gs : Gs1} {n : Nat} {pos : Pos} (hc : X.calm = true) (a : DGs X P es gs) (hn : (assignEach es X.env).length = n := by rfl) (hst : (assignEach es X.env).findIdx? (·.1) = none := by rfl) : DG X P (.Tuple es k pos) (gTp n gs) :=
  weakG (pg_tup hc a hn hst) fun v σV H QV ⟨d, σ, h, Q, rv, hE, hH, hg, hc⟩ => by
    cases d with
    | tup ds =>
      obtain ⟨a, vs, rfl, s, r⟩ := rv
      exact ⟨a, vs, rfl, s, by rw [← r.length]; exact hg.1, ds, σ, h, Q, r, hE, hH, hg.2, hc⟩
    | _ => exact hg.elim
/-! .. a place of a list -/
abbrev Set1 := D → D → D → MH → (MH → Prop) → Prop
def ClM (K : KW) (h : MH) (H : Hp) (n : MH → Prop) (nV : Hp → Prop) : Prop := ∀ h' H', Stp h H h' H' → RepH K h' H' → n h' → nV H'
def lowSet (K : KW) (r : Set1) : TSet := fun o i v H QV => ∃ a b d h Q, RepV K H a o ∧ RepV K H b i ∧ RepV K H d v ∧ RepH K h H ∧ r a b d h Q ∧ ClM K h H Q QV
def setL (p : Addr) (i d : D) (h : MH) (Q : MH → Prop) (xs : List D) : Prop := match i with
  | .int k => match ixN xs.length k with
    | some j => Q (up h p (.lst (xs.set j d)))
    | none => False
  | _ => False
def setDic (p : Addr) (i d : D) (h : MH) (Q : MH → Prop) (kvs : Kvs) : Prop := fit kvs i = true ∧ kvs.length < sizeLine ∧ Q (up h p (.dic (dset kvs i d)))
def setO (p : Addr) (i d : D) (h : MH) (Q : MH → Prop) : Option MO → Prop
  | some (.lst xs) => setL p i d h Q xs
  | some (.dic kvs) => setDic p i d h Q kvs
  | _ => False
def setD : Set1 := fun o i d h Q => match o with
  | .ref p => setO p i d h Q (h p)
  | _ => False
theorem xd_set (hu : X.A.units + 64 < cLine) : PSet X (lowSet X.kw setD) := by
  intro pins s σ H o i v ov iv u QV I r1 r2 r3 ⟨a, b, d, h, Q, ro, ri, rv, hH, hr, hc⟩
  cases a <;> first | (exact hr.elim) | skip
  rename_i p
  have hr : setO p b d h Q (h p) := hr
  have eo : o = .ref p := ro
  subst eo
  cases q : h p with
  | none => rw [q] at hr; exact hr.elim
  | some w =>
    rw [q] at hr
    cases w with
    | lst xs =>
      have hr : setL p b d h Q xs := hr
      cases b <;> first | (exact hr.elim) | skip
      rename_i k _ _
      cases (show i = _ from ri)
      unfold setL at hr
      simp only at hr
      obtain ⟨vs, e, r⟩ := hH _ _ q
      cases e2 : ixN xs.length k with
      | none => rw [e2] at hr; exact hr.elim
      | some j =>
        rw [e2] at hr
        exact set_list pins s σ H _ _ v ov iv u QV I r1 r2 r3 ⟨p, vs, k, j, rfl, rfl, e, by rw [← r.length]; exact e2, hc _ _ (Stp.write q) (hH.write q (.of (P2.set rv j r.pair))) hr⟩
    | dic kvs =>
      cases r1
      obtain ⟨ft, hl, hq⟩ := (show setDic p b d h Q kvs from hr)
      exact dd_setItem hu I (hH _ _ q) ri r2 rv r3 ft hl fun s' o' I' ro' => ⟨_, I', hc _ _ (Stp.write q) (hH.writeO q ro') hq⟩
    | ins _ _ => exact hr.elim
    | fdic _ _ => exact hr.elim
def gSb (to ti : E1) (t : Set1) : G1 := fun d σ h Q => to σ h fun o h1 => ti σ h1 fun i h2 => t o i d h2 fun h3 => Q σ h3
theorem dg_sub (hu : X.A.units + 64 < cLine) {P : Pr} {o i : Expr} {to ti : E1} {pos : Pos} (ho : DE X o to) (hi : DE X i ti)
    (ha : ∀ v, assign (.Subscript o i pos) X.env v = (do
      let ov ← holding [v] (eval o X.env)
      let iv ← holding [v, ov] (eval i X.env)
      standAt pos
      holding [v, ov, iv] (setItem ov iv v)
      release [v, ov, iv] []) := by intro _; rfl) : DG X P (.Subscript o i pos) (gSb to ti setD) :=
  weakG (pg_sub ho hi (xd_set hu) ha) fun v σV H QV ⟨d, σ, h, Q, rv, hE, hH, hg, hc⟩ => by
    refine ⟨σ, h, _, hE, hH, hg, fun a h1 x H1 s1 hH1 r1 q1 => ?_⟩
    refine ⟨σ, h1, _, hE.mono (Stp.mo hH s1), hH1, q1, fun b h2 y H2 s2 hH2 r2 q2 => ?_⟩
    have m1 := Stp.mo hH s1
    have m2 := Stp.mo hH1 s2
    refine ⟨a, b, d, h2, _, RepV.mono m2 _ r1, r2, RepV.mono (m1.trans m2) _ rv, hH2, q2, fun h3 H3 s3 hH3 q3 => ?_⟩
    exact hc σ h3 σV H3 (P.re _) (s1.trans (s2.trans s3)) (hE.mono ((m1.trans m2).trans (Stp.mo hH2 s3))) hH3 q3
/-! ### assignments -/
def dAsg (t : E1) (g : G1) : S1 := fun D σ h => t σ h fun x h1 => g x σ h1 D.nx
theorem ds_asg {tg e : Expr} {t : E1} {g : G1} {pos : Pos} (he : DE X e t) (hg : DG X P0 tg g) (hs : swapsWithSole [tg] e pos.line X.env = pure false := by rfl) (hw : swappedStores [tg] e X.env = pure none := by rfl)
    (h1 : (assignEach [tg] X.env).map (·.2) = [assign tg X.env] := by rfl) : DS X (.Assign [tg] e pos) (dAsg t g) := weakS (ps_asg he hg hs hw h1) fun DV σV H ⟨D, σ, h, hE, hH, ht, hc⟩ =>
  ⟨σ, h, _, hE, hH, ht, fun d h' v H' s' r' rv q => ⟨d, σ, h', _, rv, hE.mono (Stp.mo hH s'), r', q, fun σ2 h2 σV2 H2 _ s2 e2 z2 q2 => hc.nx σ2 h2 σV2 H2 (s'.trans s2) e2 z2 q2⟩⟩
theorem ds_set (i : Nat) {x : Str} {e : Expr} {t : E1} {pos pos' : Pos} (hN : X.N.Nodup) (hi : X.N[i]? = some x) (hx : Loc X.env.scope x) (he : DE X e t) (hs : swapsWith e (some (.Name x pos')) pos.line X.env = pure false := by rfl) (hf : X.fn x = true ∨ X.env.scope.names.lookup x = some .local := by first | exact .inl rfl | exact .inr rfl | assumption) :
    DS X (.Assign [.Name x pos'] e pos) (dAsg t (gN i)) := weakS (ps_set hN hi hx he hs hf) fun DV σV H ⟨D, σ, h, hE, hH, ht, hc⟩ =>
  ⟨σ, h, _, hE, hH, ht, fun d h' v H' s' r' rv q => hc.nx _ h' _ H' s' ((hE.mono (Stp.mo hH s')).put rv) r' q⟩
def dPar (i j : Nat) (ta : A1) : S1 := fun D σ h => ta σ h fun ds h1 => match ds with
  | [d, e] => D.nx (put (put σ i (some d)) j (some e)) h1
  | _ => False
theorem ds_par {i j : Nat} {x y : Str} {a b : Expr} {ta : A1} {px py pt pos : Pos} {kt k2 pt2} (hc : X.calm = true) (hN : X.N.Nodup) (hi : X.N[i]? = some x) (hj : X.N[j]? = some y) (hij : i ≠ j)
    (hx : X.env.scope.names.lookup x = some .local) (hy : X.env.scope.names.lookup y = some .local) (ha : DA X [a, b] ta)
    (hw : swappedStores [.Tuple [.Name x px, .Name y py] kt pt] (.Tuple [a, b] k2 pt2) X.env = pure (some [x, y]))
    (hs : swapsWithSole [.Tuple [.Name x px, .Name y py] kt pt] (.Tuple [a, b] k2 pt2) pos.line X.env = pure false := by rfl) :
    DS X (.Assign [.Tuple [.Name x px, .Name y py] kt pt] (.Tuple [a, b] k2 pt2) pos) (dPar i j ta) := weakS (ps_par hc hN hi hj hij hx hy ha hw hs) fun DV σV H ⟨D, σ, h, hE, hH, ht, hc⟩ =>
  ⟨σ, h, _, hE, hH, ht, fun ds h' vs H' s' r' rv q => by
    match ds, rv, q with
    | [], _, q => exact q.elim
    | [_], _, q => exact q.elim
    | _ :: _ :: _ :: _, _, q => exact q.elim
    | [d, e], rv, q =>
      obtain ⟨v, r, rfl, r1, v2, r2, rfl, r3, r4⟩ := rv
      cases (show r2 = [] from r4)
      exact ⟨v, v2, rfl, hc.nx _ h' _ H' s' (((hE.mono (Stp.mo hH s')).put r1).put r3) r' q⟩⟩
/-! x op= e -/
def lowIp (K : KW) (r : R1) : TIp := lowR K r
def dAug (i : Nat) (t : E1) (r : R1) : S1 := fun D σ h => match nth σ i with
  | some x => t σ h fun y h1 => r x y h1 fun z h2 => D.nx (put σ i (some z)) h2
  | none => False
def iaddD : R1 := fun x y h Q => match x, y with
  | .int i, .int j => Q (.int (i + j)) h
  | .str a, .str b => a.length + b.length ≤ sizeLine ∧ Q (.str (a ++ b)) h
  | _, _ => False
theorem xd_iadd : PIp X .Add (lowIp X.kw iaddD) := by
  intro pins s σ H x y v u Q I r1 r2 ⟨d, e, h, QD, rx, ry, hH, hr, hc⟩
  cases d <;> cases e <;> try exact hr.elim
  case int.int i j => exact ip_add pins s σ H x y v u Q I r1 r2 ⟨i, j, rx, ry, hc.int hH hr⟩
  case str.str a b =>
    obtain ⟨rfl, o1⟩ := rx
    obtain ⟨rfl, o2⟩ := ry
    exact iop_add_str pins s σ H _ _ v u Q I r1 r2 ⟨a, b, rfl, rfl, hr.1, hc.str hH (o1.app o2 hr.1) hr.2⟩
theorem xd_isub : PIp X .Sub (lowIp X.kw subD) := by
  intro pins s σ H x y v u Q I r1 r2 ⟨d, e, h, QD, rx, ry, hH, hr, hc⟩
  cases d <;> cases e <;> try exact hr.elim
  case int.int i j => exact ip_sub pins s σ H x y v u Q I r1 r2 ⟨i, j, rx, ry, hc.int hH hr⟩
theorem ds_aug (i : Nat) {x : Str} {e : Expr} {t : E1} {op : Operator} {r : R1} {pos pos' : Pos} (hN : X.N.Nodup) (hi : X.N[i]? = some x) (hx : Loc X.env.scope x) (he : DE X e t) (ho : PIp X op (lowIp X.kw r)) (hf : X.fn x = true ∨ X.env.scope.names.lookup x = some .local := by first | exact .inl rfl | exact .inr rfl | assumption) :
    DS X (.AugAssign (.Name x pos') op e pos) (dAug i t r) := weakS (ps_aug hN hi hx he ho hf) fun DV σV H ⟨D, σ, h, hE, hH, ht, hc⟩ => by
  unfold dAug at ht
  cases q : nth σ i with
  | none => rw [q] at ht; exact ht.elim
  | some d =>
    rw [q] at ht
    obtain ⟨v, e1, rv⟩ := hE.val i d q
    refine ⟨v, e1, σ, h, _, hE, hH, ht, fun e h1 u H1 s1 hH1 ru q1 => ?_⟩
    have m1 := Stp.mo hH s1
    refine ⟨d, e, h1, _, RepV.mono m1 _ rv, ru, hH1, q1, fun z h2 w H2 s2 hH2 rw' q2 => ?_⟩
    exact hc.nx _ h2 _ H2 (s1.trans s2) ((hE.mono (m1.trans (Stp.mo hH1 s2))).put rw') hH2 q2
/-! xs[i] op= e -/
def lowGet (K : KW) (r : R1) : V → V → Hp → VK → Prop := lowR K r
def getL (i : D) (h : MH) (Q : KD) (xs : List D) : Prop := match i with
  | .int k => match atI xs k with
    | some d => 0 ≤ k ∧ Q d h
    | none => False
  | _ => False
def getO (i : D) (h : MH) (Q : KD) : Option MO → Prop
  | some (.lst xs) => getL i h Q xs
  | some (.dic kvs) => ixDic kvs i h Q
  | _ => False
def getD1 : R1 := fun x y h Q => match x with
  | .ref p => getO y h Q (h p)
  | _ => False
theorem xd_get (hu : X.A.units + 64 < cLine) : PGet X (lowGet X.kw getD1) := by
  intro pins s σ H o i ov iv Q I ro ri ⟨d, e, h, QD, rx, ry, hH, hr, hc⟩
  cases d <;> first | (exact hr.elim) | skip
  rename_i p
  cases (show o = _ from rx)
  have hr : getO e h QD (h p) := hr
  cases q : h p with
  | none => rw [q] at hr; exact hr.elim
  | some u =>
    rw [q] at hr
    cases u with
    | lst xs =>
      have hr : getL e h QD xs := hr
      cases e <;> first | (exact hr.elim) | skip
      rename_i k _ _
      cases (show i = _ from ry)
      unfold getL at hr
      simp only at hr
      obtain ⟨vs, e, r⟩ := hH _ _ q
      cases e2 : atI xs k with
      | none => rw [e2] at hr; exact hr.elim
      | some z =>
        rw [e2] at hr
        obtain ⟨w, hw, rw'⟩ := atI_rep r.pair e2
        cases ro
        obtain ⟨t, rfl⟩ := ri
        obtain ⟨its, rv, pl, hz⟩ := I.list (SqL.of e)
        obtain ⟨j, j1, j2, j3, j4, j5⟩ := atI_get hw
        have hl := rv.length
        have hn := line63
        obtain ⟨uw, eu, ru⟩ := rv.get j2
        have hj : k.toNat = j := by
          rw [seqIndex_of hr.1 j5] at j1
          exact Option.some.inj j1
        exact wpAny_getItem_list pl.isList hr.1 (by omega) (by rw [hj]; simpa using eu) ⟨w, H, I, ru, hc.val hH rw' hr.2⟩
    | dic kvs =>
      cases ro
      obtain ⟨ft, hr⟩ := (show ixDic kvs e h QD from hr)
      cases g : dget kvs e with
      | none => rw [g] at hr; exact hr.elim
      | some f =>
        rw [g] at hr
        exact dd_getItem hu I (hH _ _ q) ry ri ft g fun w' s' I' ⟨z, rz, rf⟩ => ⟨z, H, I', rz, hc.val hH rf hr⟩
    | ins _ _ => exact hr.elim
    | fdic _ _ => exact hr.elim
def dAugS (to ti te : E1) (r : R1) : S1 := fun D σ h => to σ h fun o h1 => ti σ h1 fun i h2 => getD1 o i h2 fun x h3 => te σ h3 fun y h4 => r x y h4 fun z h5 => setD o i z h5 fun h6 => D.nx σ h6
theorem ds_augS (hu : X.A.units + 64 < cLine) {o i e : Expr} {to ti te : E1} {op : Operator} {r : R1} {pos tpos : Pos} (ho : DE X o to) (hi : DE X i ti) (he : DE X e te) (hp : PIp X op (lowIp X.kw r))
    (ha : ∀ ov iv new, augStore i ov iv new = (do holding [new, ov, iv] (setItem ov iv new); release [new, ov, iv] []; pure .next) := by intros; rfl) : DS X (.AugAssign (.Subscript o i tpos) op e pos) (dAugS to ti te r) :=
  weakS (ps_augS ho hi (xd_get hu) he hp (xd_set hu) ha) fun DV σV H ⟨D, σ, h, hE, hH, ht, hc⟩ => by
    refine ⟨σ, h, _, hE, hH, ht, fun a h1 x H1 s1 hH1 r1 q1 => ?_⟩
    have m1 := Stp.mo hH s1
    refine ⟨σ, h1, _, hE.mono m1, hH1, q1, fun b h2 y H2 s2 hH2 r2 q2 => ?_⟩
    have m2 := Stp.mo hH1 s2
    refine ⟨a, b, h2, _, RepV.mono m2 _ r1, r2, hH2, q2, fun d h3 z H3 s3 hH3 r3 q3 => ?_⟩
    have m3 := Stp.mo hH2 s3
    refine ⟨σ, h3, _, hE.mono ((m1.trans m2).trans m3), hH3, q3, fun e h4 u H4 s4 hH4 r4 q4 => ?_⟩
    have m4 := Stp.mo hH3 s4
    refine ⟨d, e, h4, _, RepV.mono m4 _ r3, r4, hH4, q4, fun f h5 w H5 s5 hH5 r5 q5 => ?_⟩
    have m5 := Stp.mo hH4 s5
    refine ⟨a, b, f, h5, _, RepV.mono ((m2.trans m3).trans (m4.trans m5)) _ r1, RepV.mono (m3.trans (m4.trans m5)) _ r2, r5, hH5, q5, fun h6 H6 s6 hH6 q6 => ?_⟩
    exact hc.nx σ h6 σV H6 (s1.trans (s2.trans (s3.trans (s4.trans (s5.trans s6))))) (hE.mono (((m1.trans m2).trans (m3.trans m4)).trans (m5.trans (Stp.mo hH5 s6)))) hH6 q6
end
end DL
namespace DL
open PySem PySem.Spec PyProof.Rows L2
/-! ### what is walked -/
structure SrcOk (K : KW) (J : It) (xs : List D) (stab : MH → Prop) (h1 : MH) (H1 : Hp) : Prop where
  go : ∀ h H i, Stp h1 H1 h H → RepH K h H → stab h → i < xs.length → J.go i H
  yl : ∀ h H i v H', Stp h1 H1 h H → RepH K h H → stab h → i < xs.length → J.yld i H v H' → ∃ d, xs[i]? = some d ∧ RepV K H' d v ∧ Stp h H h H' ∧ RepH K h H'
  st : ∀ h H, Stp h1 H1 h H → RepH K h H → stab h → J.stop xs.length H
abbrev I1 := Sl → MH → (List D → (MH → Prop) → MH → Prop) → Prop
def lowI (K : KW) (t : I1) : TI := fun σV H R => ∃ σ h Q, RepE K H σ σV ∧ RepH K h H ∧ t σ h Q ∧ ∀ xs stab h1 J H1, Stp h H h1 H1 → RepH K h1 H1 → SrcOk K J xs stab h1 H1 → Q xs stab h1 → R J H1
abbrev DI (X : Cx) (tg it : Expr) (t : I1) : Prop := PI X tg it (lowI X.kw t)
theorem weakI {X : Cx} {tg e : Expr} {t t' : TI} (p : PI X tg e t) (w : ∀ σ H Q, t' σ H Q → t σ H Q) : PI X tg e t' := ⟨fun pins s σ H Q I h => p.run pins s σ H Q I (w σ H Q h)⟩
/-- the signs of a text -/
def signs (z : Str) : List D := z.cps.toList.map fun c => .str ⟨#[c]⟩
def stabO (a : Addr) (xs : List D) : MH → Prop := fun h => h a = some (.lst xs)
def srcO (a : Addr) (h : MH) (Q : List D → (MH → Prop) → MH → Prop) : Option MO → Prop
  | some (.lst xs) => Q xs (stabO a xs) h
  | _ => False
/-- what a value is, walked -/
def srcD (d : D) (h : MH) (Q : List D → (MH → Prop) → MH → Prop) : Prop := match d with
  | .tup xs => Q xs (fun _ => True) h
  | .rol xs => Q xs (fun _ => True) h
  | .str z => Q (signs z) (fun _ => True) h
  | .ref a => srcO a h Q (h a)
  | _ => False
def iSeq (t : E1) : I1 := fun σ h Q => t σ h fun d h1 => srcD d h1 Q
section
variable {K : KW}
theorem src_tup {H1 : Hp} {h1 : MH} {a : Addr} {xs : List D} {vs : List V} (r1 : RepH K h1 H1) (s : SqT K.F H1 a vs) (r : RepVs K H1 xs vs) : SrcOk K (Itt K.F a) xs (fun _ => True) h1 H1 := by
  have up : ∀ h H, Stp h1 H1 h H → SqT K.F H a vs ∧ RepVs K H xs vs := fun h H q => ⟨(Stp.mo r1 q).t _ _ s, RepVs.mono (Stp.mo r1 q) _ r⟩
  refine ⟨fun h H i q _ _ hi => ?_, fun h H i v H' q rh _ hi y => ?_, fun h H q _ _ => ⟨vs, (up h H q).1, by rw [← r.length]; exact Nat.le_refl _⟩⟩
  · obtain ⟨w, ew, _⟩ := P2.get r.pair (List.getElem?_eq_getElem hi)
    exact ⟨vs, w, (up h H q).1, ew⟩
  · obtain ⟨rfl, y⟩ := y
    obtain ⟨d, ed, rd⟩ := P2.get' (up _ _ q).2.pair (y vs (up _ _ q).1)
    exact ⟨d, ed, rd, Stp.refl, rh⟩
theorem src_rol {H1 : Hp} {h1 : MH} {a : Addr} {xs : List D} {vs : List V} (r1 : RepH K h1 H1) (s : ROL K H1 a vs) (r : RepVs K H1 xs vs) : SrcOk K (Itl K.F a) xs (fun _ => True) h1 H1 := by
  have up : ∀ h H, Stp h1 H1 h H → SqL K.F H a vs ∧ RepVs K H xs vs := fun h H q => ⟨((Stp.mo r1 q).l _ _ s).sq, RepVs.mono (Stp.mo r1 q) _ r⟩
  refine ⟨fun h H i q _ _ hi => ?_, fun h H i v H' q rh _ hi y => ?_, fun h H q _ _ => ⟨vs, (up h H q).1, by rw [← r.length]; exact Nat.le_refl _⟩⟩
  · obtain ⟨w, ew, _⟩ := P2.get r.pair (List.getElem?_eq_getElem hi)
    exact ⟨vs, w, (up h H q).1, ew⟩
  · obtain ⟨rfl, y⟩ := y
    obtain ⟨d, ed, rd⟩ := P2.get' (up _ _ q).2.pair (y vs (up _ _ q).1)
    exact ⟨d, ed, rd, Stp.refl, rh⟩
theorem src_lst {H1 : Hp} {h1 : MH} {a : Addr} {xs : List D} : SrcOk K (Itl K.F a) xs (stabO a xs) h1 H1 := by
  refine ⟨fun h H i _ rh st hi => ?_, fun h H i v H' _ rh st hi y => ?_, fun h H _ rh st => ?_⟩
  · obtain ⟨vs, e, r⟩ := rh a _ st
    obtain ⟨w, ew, _⟩ := P2.get r.pair (List.getElem?_eq_getElem hi)
    exact ⟨vs, w, SqL.of e, ew⟩
  · obtain ⟨vs, e, r⟩ := rh a _ st
    obtain ⟨rfl, y⟩ := y
    obtain ⟨d, ed, rd⟩ := P2.get' r.pair (y vs (SqL.of e))
    exact ⟨d, ed, rd, Stp.refl, rh⟩
  · obtain ⟨vs, e, r⟩ := rh a _ st
    exact ⟨vs, SqL.of e, by rw [← r.length]; exact Nat.le_refl _⟩
theorem src_str {H1 : Hp} {h1 : MH} {z : Str} (ok : okS z) : SrcOk K (Its z) (signs z) (fun _ => True) h1 H1 := by
  have len : (signs z).length = z.cps.size := by unfold signs; rw [List.length_map, Array.length_toList]
  refine ⟨fun h H i _ _ _ hi => ?_, fun h H i v H' _ rh _ hi y => ?_, fun h H _ _ _ => ?_⟩
  · show i < z.cps.size
    rw [← len]; exact hi
  · obtain ⟨rfl, c, ec, rfl⟩ := y
    refine ⟨.str ⟨#[c]⟩, ?_, ⟨rfl, ?_⟩, Stp.refl, rh⟩
    · unfold signs
      rw [List.getElem?_map, Array.getElem?_toList, ec]; rfl
    · refine ⟨by show 1 ≤ sizeLine; decide, ?_⟩
      have o := ok.2
      unfold PyData.strOk at o ⊢
      rw [Array.all_eq_true] at o
      obtain ⟨hlt, e⟩ := Array.getElem?_eq_some_iff.mp ec
      have := o i hlt
      rw [e] at this
      rw [← Array.all_toList, List.all_cons, List.all_nil, Bool.and_true]; exact this
  · show z.cps.size ≤ (signs z).length
    rw [len]; exact Nat.le_refl _
def rgD (lo : Int) (n : Nat) : List D := (List.range n).map fun i => .int (lo + (i : Nat))
theorem src_rng {H1 : Hp} {h1 : MH} {lo : Int} {n : Nat} : SrcOk K (Itr lo n) (rgD lo n) (fun _ => True) h1 H1 := by
  have len : (rgD lo n).length = n := by unfold rgD; rw [List.length_map, List.length_range]
  refine ⟨fun h H i _ _ _ hi => ?_, fun h H i v H' _ rh _ hi y => ?_, fun h H _ _ _ => ?_⟩
  · show i < n
    rw [← len]; exact hi
  · obtain ⟨rfl, rfl⟩ := y
    rw [len] at hi
    refine ⟨.int (lo + (i : Nat)), ?_, rfl, Stp.refl, rh⟩
    unfold rgD
    rw [List.getElem?_map, List.getElem?_range hi]; rfl
  · show n ≤ (rgD lo n).length
    rw [len]; exact Nat.le_refl _
end
section
variable {X : Cx}
theorem di_seq {tg e : Expr} {t : E1} (he : DE X e t) : DI X tg e (iSeq t) := by
  refine ⟨fun pins s σV H R I ⟨σ, h, Q, hE, hH, ht, hc⟩ => ?_⟩
  refine thn (he.run pins s σV H (fun v H' => ∃ d h', Stp h H h' H' ∧ RepH X.kw h' H' ∧ RepV X.kw H' d v ∧ srcD d h' Q) I ⟨σ, h, _, hE, hH, ht, fun d h' v H' s' r' rv q => ⟨d, h', s', r', rv, q⟩⟩) fun u s1 ⟨v, H1, I1, r1, d, h1, st1, rh1, rv, q⟩ => ?_
  cases d with
  | tup xs =>
    obtain ⟨a, vs, rfl, sq, rr⟩ := rv
    cases r1
    obtain ⟨its, _, tp, _⟩ := I1.tuple sq
    refine wpAny_pyIter_tuple (show s1.heap.IsTuple a its.toArray from tp) (pi_one (tk := s1.toks) I1 _ (turn_tuple a _) ?_ (hc _ _ _ _ _ st1 rh1 (src_tup rh1 sq rr) q))
    exact ⟨_, Heap.get?_push_size _ rfl, rfl, rfl⟩
  | rol xs =>
    obtain ⟨a, vs, rfl, sq, rr⟩ := rv
    cases r1
    obtain ⟨its, _, tp, _⟩ := I1.list sq.sq
    refine wpAny_pyIter_list tp.isList (pi_one (tk := s1.toks) I1 _ (turn_list a _) ?_ (hc _ _ _ _ _ st1 rh1 (src_rol rh1 sq rr) q))
    exact ⟨_, Heap.get?_push_size _ rfl, rfl, rfl⟩
  | ref a =>
    cases (show v = _ from rv)
    cases r1
    have q : srcO a h1 Q (h1 a) := q
    cases e : h1 a with
    | none => rw [e] at q; exact q.elim
    | some o =>
      cases o with
      | lst xs =>
        rw [e] at q
        obtain ⟨vs, eH, rr⟩ := rh1 a _ e
        obtain ⟨its, _, tp, _⟩ := I1.list (SqL.of eH)
        refine wpAny_pyIter_list tp.isList (pi_one (tk := s1.toks) I1 _ (turn_list a _) ?_ (hc _ _ _ _ _ st1 rh1 src_lst q))
        exact ⟨_, Heap.get?_push_size _ rfl, rfl, rfl⟩
      | dic _ => rw [e] at q; exact q.elim
      | ins _ _ => rw [e] at q; exact q.elim
      | fdic _ _ => rw [e] at q; exact q.elim
  | str z =>
    obtain ⟨rfl, ok⟩ := rv
    obtain ⟨t, rfl⟩ := r1
    have fin : R (Its z) H1 := hc _ _ _ _ _ st1 rh1 (src_str ok) q
    cases ha : z.cps.all (· < 128)
    · refine wpAny_pyIter_wide ha (pi_one (tk := s1.toks) I1 _ (turn_str _ z t "str_iterator" (.inr rfl)) ?_ fin)
      exact ⟨_, Heap.get?_push_size _ rfl, rfl, rfl⟩
    · refine wpAny_pyIter_ascii ha (pi_one (tk := s1.toks) I1 _ (turn_str _ z t "str_ascii_iterator" (.inl rfl)) ?_ fin)
      exact ⟨_, Heap.get?_push_size _ rfl, rfl, rfl⟩
  | _ => exact q.elim
def rg1 (ds : List D) (h : MH) (Q : List D → (MH → Prop) → MH → Prop) : Prop := match ds with
  | [.int j] => (-(2 ^ 62) ≤ j ∧ j < 2 ^ 62) ∧ Q (rgD 0 j.toNat) (fun _ => True) h
  | _ => False
def iRg1 (ta : A1) : I1 := fun σ h Q => ta σ h fun ds h1 => rg1 ds h1 Q
theorem rg1_inv {ds : List D} {h : MH} {Q : List D → (MH → Prop) → MH → Prop} (q : rg1 ds h Q) : ∃ j, ds = [.int j] ∧ (-(2 ^ 62) ≤ j ∧ j < 2 ^ 62) ∧ Q (rgD 0 j.toNat) (fun _ => True) h := by
  unfold rg1 at q
  split at q
  · exact ⟨_, rfl, q.1, q.2⟩
  · exact q.elim
theorem di_range1 {tg a : Expr} {ta : A1} {p pos : Pos} (hg : Gl X "range") (hm : X.mg "range" = none) (ha : DA X [a] ta) (hs : starEach [a] X.env = [(false, eval a X.env)] := by rfl) : DI X tg (.Call (.Name "range" p) [a] [] pos) (iRg1 ta) :=
  weakI (pi_range1 hg hm ha hs) fun σV H R ⟨σ, h, Q, hE, hH, ht, hc⟩ => ⟨σ, h, _, hE, hH, ht, fun ds h' vs H' s' r' rv q => by
    obtain ⟨j, rfl, b, q⟩ := rg1_inv q
    obtain ⟨v, r, rfl, r1, r2⟩ := rv
    cases (show v = _ from r1)
    cases (show r = [] from r2)
    exact ⟨j, rfl, b.1, b.2, hc _ _ _ _ _ s' r' src_rng q⟩⟩
def rg2 (ds : List D) (h : MH) (Q : List D → (MH → Prop) → MH → Prop) : Prop := match ds with
  | [.int i, .int j] => (-(2 ^ 62) ≤ i ∧ i < 2 ^ 62 ∧ -(2 ^ 62) ≤ j ∧ j < 2 ^ 62) ∧ Q (rgD i (j - i).toNat) (fun _ => True) h
  | _ => False
def iRg2 (ta : A1) : I1 := fun σ h Q => ta σ h fun ds h1 => rg2 ds h1 Q
theorem rg2_inv {ds : List D} {h : MH} {Q : List D → (MH → Prop) → MH → Prop} (q : rg2 ds h Q) : ∃ i j, ds = [.int i, .int j] ∧ (-(2 ^ 62) ≤ i ∧ i < 2 ^ 62 ∧ -(2 ^ 62) ≤ j ∧ j < 2 ^ 62) ∧ Q (rgD i (j - i).toNat) (fun _ => True) h := by
  unfold rg2 at q
  split at q
  · exact ⟨_, _, rfl, q.1, q.2⟩
  · exact q.elim
theorem di_range2 {tg a b : Expr} {ta : A1} {p pos : Pos} (hg : Gl X "range") (hm : X.mg "range" = none) (ha : DA X [a, b] ta) (hs : starEach [a, b] X.env = [(false, eval a X.env), (false, eval b X.env)] := by rfl) (hs2 : starEach [b] X.env = [(false, eval b X.env)] := by rfl) : DI X tg (.Call (.Name "range" p) [a, b] [] pos) (iRg2 ta) :=
  weakI (pi_range2 hg hm ha hs hs2) fun σV H R ⟨σ, h, Q, hE, hH, ht, hc⟩ => ⟨σ, h, _, hE, hH, ht, fun ds h' vs H' s' r' rv q => by
    obtain ⟨i, j, rfl, b, q⟩ := rg2_inv q
    obtain ⟨v, r, rfl, r1, v2, r2, rfl, r3, r4⟩ := rv
    cases (show v = _ from r1)
    cases (show v2 = _ from r3)
    cases (show r2 = [] from r4)
    exact ⟨i, j, rfl, b, hc _ _ _ _ _ s' r' src_rng q⟩⟩
/-! ### loops -/
/-- at less than what stands -/
def Lw (I : Sl → MH → Prop) : Sl → MH → Prop := fun σ h => ∃ σ0 h0, leS σ0 σ ∧ le h0 h ∧ I σ0 h0
theorem Lw.of {I : Sl → MH → Prop} {σ : Sl} {h : MH} (q : I σ h) : Lw I σ h := ⟨σ, h, leS.refl, le.refl, q⟩
def dWhile (c : T1) (tb : S1) : S1 := fun D σ h => ∃ I : Nat → Sl → MH → Prop, (∃ m, Lw (I m) σ h) ∧ ∀ m σ h, I m σ h → c σ h fun b h1 =>
  if b = true then tb { D with nx := fun σ' h' => ∃ m', m' < m ∧ Lw (I m') σ' h', ct := fun σ' h' => ∃ m', m' < m ∧ Lw (I m') σ' h', bk := D.nx } σ h1 else D.nx σ h1
theorem ds_while {c : Expr} {body : List Stmt} {tc : T1} {tb : S1} {pos : Pos} (hp : PassesOwn (model X.prog X.w) X.A X.env X.xe) (hc : DT X c tc) (hb : DSs X body tb) : DS X (.While c body [] pos) (dWhile tc tb) :=
  weakS (ps_while hp hc hb) fun DV σV H ⟨D, σ, h, hE, hH, ⟨I, ⟨m0, σ0, h0, w1, w2, i0⟩, turn⟩, hcl⟩ => by
    refine ⟨fun m σV' H' => ∃ σ' h', Stp h H h' H' ∧ RepE X.kw H' σ' σV' ∧ RepH X.kw h' H' ∧ I m σ' h', ⟨m0, σ0, h0, Stp.low Stp.refl w2, hE.low w1, hH.low w2, i0⟩, ?_⟩
    rintro m σV1 H1 ⟨σ1, h1, s1, e1, r1, i1⟩
    refine ⟨σ1, h1, _, e1, r1, turn m σ1 h1 i1, fun b h2 H2 s2 r2 q => ?_⟩
    have e2 := e1.mono (Stp.mo r1 s2)
    cases b with
    | false =>
      rw [if_neg Bool.false_ne_true] at q
      exact iteF (hcl.nx _ _ _ _ (s1.trans s2) e2 r2 q)
    | true =>
      rw [if_pos rfl] at q
      refine iteT ?_
      refine ⟨fun σV' H' => ∃ m', m' < m ∧ ∃ σ' h', Stp h H h' H' ∧ RepE X.kw H' σ' σV' ∧ RepH X.kw h' H' ∧ I m' σ' h', fun σ' H' z => z, ?_⟩
      have back : ClN X.kw h2 H2 (fun σ' h' => ∃ m', m' < m ∧ Lw (I m') σ' h') fun σV' H' => ∃ m', m' < m ∧ ∃ σ' h', Stp h H h' H' ∧ RepE X.kw H' σ' σV' ∧ RepH X.kw h' H' ∧ I m' σ' h' := fun σ' h' σV' H' s' e' r' ⟨m', hm, σ0, h0, w1, w2, i0⟩ =>
        ⟨m', hm, σ0, h0, ((s1.trans s2).trans s').low w2, e'.low w1, r'.low w2, i0⟩
      exact ⟨_, σ1, h2, e2, r2, q, ⟨back, (hcl.rt.step (s1.trans s2)), hcl.nx.step (s1.trans s2), back⟩⟩
def dFor (it : I1) (g : G1) (tb : S1) : S1 := fun D σ h => it σ h fun xs stab h1 => ∃ I : Nat → Sl → MH → Prop, Lw (I 0) σ h1 ∧ (∀ i σ h, I i σ h → stab h) ∧
  (∀ i x σ h, xs[i]? = some x → I i σ h → g x σ h fun σ2 h2 => tb { D with nx := Lw (I (i + 1)), ct := Lw (I (i + 1)), bk := D.nx } σ2 h2) ∧ ∀ σ h, I xs.length σ h → D.nx σ h
theorem ds_for {tg iter : Expr} {body : List Stmt} {wi : I1} {g : G1} {tb : S1} {pos : Pos} (hp : PassesOwn (model X.prog X.w) X.A X.env X.xe) (hc : X.calm = true) (hi : DI X tg iter wi) (hg : DG X P0 tg g) (hb : DSs X body tb)
    (hs : ∀ x, foldedSetIterable iter X.env x = pure x := by intro _; rfl) : DS X (.For tg iter body [] pos) (dFor wi g tb) :=
  weakS (ps_for hp hc hi hg hb hs) fun DV σV H ⟨D, σ, h, hE, hH, ht, hcl⟩ => by
    refine ⟨σ, h, _, hE, hH, ht, fun xs stab h1 J H1 s1 r1 so ⟨I, ⟨σ0, h0, w1, w2, i0⟩, st, turn, fin⟩ => ?_⟩
    have e1 := hE.mono (Stp.mo hH s1)
    refine ⟨fun i m σV' H' => m = xs.length - i ∧ i ≤ xs.length ∧ ∃ σ' h', Stp h1 H1 h' H' ∧ RepE X.kw H' σ' σV' ∧ RepH X.kw h' H' ∧ I i σ' h', ⟨xs.length, rfl, Nat.zero_le _, σ0, h0, Stp.low Stp.refl w2, e1.low w1, r1.low w2, i0⟩, ?_⟩
    rintro i m σV2 H2 ⟨rfl, hi, σ2, h2, s2, e2, r2, i2⟩
    by_cases lt : i < xs.length
    · refine .inr ⟨so.go h2 H2 i s2 r2 (st _ _ _ i2) lt, fun σV' H' => ∃ σ' h', Stp h1 H1 h' H' ∧ RepE X.kw H' σ' σV' ∧ RepH X.kw h' H' ∧ I (i + 1) σ' h', fun σ' H' z => ⟨xs.length - (i + 1), by omega, rfl, lt, z⟩, fun v H3 y => ?_⟩
      obtain ⟨d, ed, rd, s3, r3⟩ := so.yl h2 H2 i v H3 s2 r2 (st _ _ _ i2) lt y
      refine ⟨d, σ2, h2, _, rd, e2.mono (Stp.mo r2 s3), r3, turn i d σ2 h2 ed i2, fun σ4 h4 σV4 H4 _ s4 e4 r4 q4 => ?_⟩
      have back : ClN X.kw h4 H4 (Lw (I (i + 1))) fun σV' H' => ∃ σ' h', Stp h1 H1 h' H' ∧ RepE X.kw H' σ' σV' ∧ RepH X.kw h' H' ∧ I (i + 1) σ' h' := fun σ' h' σV' H' s' e' r' ⟨σ0, h0, w1, w2, i0⟩ =>
        ⟨σ0, h0, ((s2.trans (s3.trans s4)).trans s').low w2, e'.low w1, r'.low w2, i0⟩
      have all := s1.trans (s2.trans (s3.trans s4))
      exact ⟨_, σ4, h4, e4, r4, q4, ⟨back, hcl.rt.step all, hcl.nx.step all, back⟩⟩
    · have e : i = xs.length := by omega
      subst e
      exact .inl ⟨so.st h2 H2 s2 r2 (st _ _ _ i2), hcl.nx _ _ _ _ (s1.trans s2) e2 r2 (fin σ2 h2 i2)⟩
/-! ### comprehensions -/
def wipeD (σ : Sl) : List Nat → Sl
  | [] => σ
  | v :: vs => put (wipeD σ vs) v none
theorem wipeD_len (σ : Sl) : ∀ vs, (wipeD σ vs).length = σ.length
  | [] => rfl
  | v :: vs => by show (put _ v none).length = _; rw [put_len, wipeD_len σ vs]
theorem wipeD_nth {σ : Sl} {j : Nat} {e : D} : ∀ {vs : List Nat}, nth (wipeD σ vs) j = some e → nth σ j = some e ∧ j ∉ vs
  | [], h => ⟨h, by simp⟩
  | v :: vs, h => by
    rcases nth_put _ v j none h with ⟨_, q⟩ | ⟨n, q⟩
    · cases q
    · obtain ⟨a, b⟩ := wipeD_nth q
      exact ⟨a, by simp [n, b]⟩
theorem wipe_at {σ : L2.St} {j : Nat} : ∀ {vs : List Nat}, j ∉ vs → (wipe σ vs)[j]? = σ[j]?
  | [], _ => rfl
  | v :: vs, h => by
    rw [List.mem_cons, not_or] at h
    show ((wipe σ vs).set v none)[j]? = _
    rw [List.getElem?_set_ne (Ne.symm h.1), wipe_at h.2]
theorem RepE.wipe {K : KW} {H : Hp} {σ : Sl} {σV : L2.St} (r : RepE K H σ σV) (vs : List Nat) : RepE K H (wipeD σ vs) (L2.wipe σV vs) := by
  refine ⟨by rw [wipeD_len, wipe_length]; exact r.len, fun i d e => ?_⟩
  obtain ⟨a, b⟩ := wipeD_nth e
  obtain ⟨v, x, y⟩ := r.val i d a
  exact ⟨v, by rw [wipe_at b]; exact x, y⟩
theorem wipe_wipe {σ : L2.St} : ∀ {vs : List Nat} (ws : List Nat), (∀ v ∈ vs, v ∈ ws) → L2.wipe (L2.wipe σ vs) ws = L2.wipe σ ws
  | [], _, _ => rfl
  | v :: vs, ws, h => by
    show L2.wipe ((L2.wipe σ vs).set v none) ws = _
    rw [wipe_put ws _ (h v (by simp)), wipe_wipe ws fun u hu => h u (by simp [hu])]
def dLc (it : I1) (g : G1) (tt : T1) (te : E1) (vs : List Nat) : E1 := fun σ h Q => it σ h fun xs stab h1 => xs.length ≤ sizeLine ∧ ∃ I : Nat → List D → MH → Prop, (∃ h0, le h0 h1 ∧ I 0 [] h0) ∧ (∀ i a h, I i a h → stab h) ∧
  (∀ i x a h, xs[i]? = some x → I i a h → g x (wipeD σ vs) h fun σ2 h2 => tt σ2 h2 fun b h3 => if b = true then te σ2 h3 fun y h4 => ∃ h5, le h5 h4 ∧ I (i + 1) (a ++ [y]) h5 else ∃ h5, le h5 h3 ∧ I (i + 1) a h5) ∧
  ∀ a h, I xs.length a h → ∀ p, h p = none → Q (.ref p) (up h p (.lst a))
abbrev DTs (X : Cx) (ifs : List Expr) (t : T1) : Prop := PTs X ifs (lowT X.kw t)
def dYes : T1 := fun _ h Q => Q true h
theorem dts_nil : DTs X [] dYes := ⟨fun pins s σV H QV I ⟨σ, h, Q, hE, hH, ht, hc⟩ => pts_nil.run pins s σV H QV I (hc true h H Stp.refl hH ht)⟩
theorem dts_one {c : Expr} {t : T1} (h : DT X c t) : DTs X [c] t := pts_one h
theorem low_lc {K : KW} {it : I1} {g : G1} {tt : T1} {te : E1} {vs : List Nat} {σV : L2.St} {H : Hp} {QV : VK} (q : lowE K (dLc it g tt te vs) σV H QV) :
    tLc (lowI K it) (lowG K (Pw vs) g) (lowT K tt) (lowE K te) vs σV H QV := by
  obtain ⟨σ, h, Q, hE, hH, ht, hc⟩ := q
  refine ⟨σ, h, _, hE, hH, ht, fun xs stab h1 J H1 s1 r1 so ⟨hz, I, ⟨h0, w0, i0⟩, st, turn, fin⟩ A nA => ?_⟩
  have e1 := (hE.mono (Stp.mo hH s1)).wipe vs
  have h0A : h0 A = none := by
    cases z : h0 A with
    | none => rfl
    | some u => have := w0 A u z; rw [r1.nofresh nA] at this; cases this
  refine ⟨fun i m H' => m = xs.length - i ∧ i ≤ xs.length ∧ ∃ a av h', H' A = some (.lst av) ∧ RepVs K H' a av ∧ a.length ≤ i ∧ Stp h1 H1 h' H' ∧ RepH K h' H' ∧ h' A = none ∧ RepE K H' (wipeD σ vs) (L2.wipe σV vs) ∧ I i a h', ⟨xs.length, rfl, Nat.zero_le _, [], [], h0, upd_same, rfl, Nat.zero_le _, ?_, ?_, h0A, ?_, i0⟩, ?_⟩
  · exact (Stp.hide nA).low w0
  · exact (r1.hide nA).low w0
  · exact e1.mono (Stp.mo r1 (Stp.hide nA))
  rintro i m H2 ⟨rfl, hi, a, av, h2, eA, ra, la, s2, r2, hA, e2, i2⟩
  by_cases lt : i < xs.length
  · refine .inr ⟨so.go h2 H2 i s2 r2 (st _ _ _ i2) lt, fun H' => ∃ a av h', H' A = some (.lst av) ∧ RepVs K H' a av ∧ a.length ≤ i + 1 ∧ Stp h1 H1 h' H' ∧ RepH K h' H' ∧ h' A = none ∧ RepE K H' (wipeD σ vs) (L2.wipe σV vs) ∧ I (i + 1) a h', fun H' z => ⟨xs.length - (i + 1), by omega, rfl, lt, z⟩, fun v H3 y => ?_⟩
    obtain ⟨d, ed, rd, s3, r3⟩ := so.yl h2 H2 i v H3 s2 r2 (st _ _ _ i2) lt y
    refine ⟨d, wipeD σ vs, h2, _, rd, e2.mono (Stp.mo r2 s3), r3, turn i d a h2 ed i2, fun σ4 h4 σV4 H4 p4 s4 e4 r4 q4 => ⟨?_, ?_⟩⟩
    · have p4 : L2.wipe σV4 vs = L2.wipe (L2.wipe σV vs) vs := p4
      rw [p4, wipe_wipe vs fun _ z => z]
    refine ⟨σ4, h4, _, e4, r4, q4, fun b h5 H5 s5 r5 q5 => ?_⟩
    have s35 := s3.trans (s4.trans s5)
    have m35 := Stp.mo r2 s35
    obtain ⟨hA5, eA5⟩ := s35 A _ hA eA
    cases b with
    | false =>
      rw [if_neg Bool.false_ne_true] at q5
      refine iteF ?_
      obtain ⟨h6, w6, i6⟩ := q5
      refine ⟨a, av, h6, eA5, RepVs.mono m35 _ ra, by omega, (s2.trans s35).low w6, r5.low w6, ?_, e2.mono m35, i6⟩
      cases z : h6 A with
      | none => rfl
      | some u => have := w6 A u z; rw [hA5] at this; cases this
    | true =>
      rw [if_pos rfl] at q5
      refine iteT ?_
      refine ⟨σ4, h5, _, e4.mono (Stp.mo r4 s5), r5, q5, fun y h6 yv H6 s6 r6 ry ⟨h7, w7, i7⟩ => ?_⟩
      have s36 := s35.trans s6
      have m36 := Stp.mo r2 s36
      obtain ⟨hA6, eA6⟩ := s36 A _ hA eA
      have hA7 : h7 A = none := by
        cases z : h7 A with
        | none => rfl
        | some u => have := w7 A u z; rw [hA6] at this; cases this
      -- the new list is hidden: its growth is seen by nobody
      have ne : ∀ c u, H6 c = some u → h6 c = none → c ≠ A → upd H6 A (.lst (av ++ [yv])) c = some u := fun c u e _ n => by rw [upd_ne n]; exact e
      have mo7 : Mo K H6 (upd H6 A (.lst (av ++ [yv]))) := by
        refine ⟨fun c ys q => ?_, fun c ys q => ?_⟩
        · rcases q with (q | ⟨o, q⟩) | q
          · exact .inl (.inl (by rw [upd_ne (ne_of q eA6 (by intro z; cases z))]; exact q))
          · exact .inl (.inr ⟨o, by rw [upd_ne (ne_of q eA6 (by intro z; cases z))]; exact q⟩)
          · exact .inr q
        · rcases q with ⟨o, q⟩ | q
          · exact .inl ⟨o, by rw [upd_ne (ne_of q eA6 (by intro z; cases z))]; exact q⟩
          · exact .inr q
      have r7 : RepH K h7 (upd H6 A (.lst (av ++ [yv]))) := fun c u e => by
        have nc : c ≠ A := fun z => by rw [z, hA7] at e; cases e
        exact (r6 c u (w7 c u e)).mono mo7 fun x f => by rw [upd_ne nc]; exact f
      refine ⟨av, eA6, ?_, a ++ [y], av ++ [yv], h7, upd_same, RepVs.mono mo7 _ (.of (P2.append (RepVs.mono m36 _ ra).pair (.cons ry .nil))), by rw [List.length_append, List.length_singleton]; omega, ?_, r7, hA7, (e2.mono m36).mono mo7, i7⟩
      · rw [← (RepVs.mono m36 _ ra).length]
        omega
      · intro c u e f
        obtain ⟨x1, x2⟩ := ((s2.trans s36).low w7) c u e f
        have nc : c ≠ A := fun z => by rw [z, nA] at f; cases f
        exact ⟨x1, by rw [upd_ne nc]; exact x2⟩
  · have e : i = xs.length := by omega
    subst e
    refine .inl ⟨so.st h2 H2 s2 r2 (st _ _ _ i2), ?_⟩
    have fq := fin a h2 i2 A hA
    refine hc (.ref A) (up h2 A (.lst a)) (.ref A) H2 ?_ ?_ rfl fq
    · intro c u x y
      obtain ⟨x1, y1⟩ := s1 c u x y
      have nc : c ≠ A := fun z => by rw [z, nA] at y1; cases y1
      obtain ⟨x2, y2⟩ := s2 c u x1 y1
      exact ⟨by rw [up_ne nc]; exact x2, y2⟩
    · intro c u x
      by_cases z : c = A
      · subst z
        rw [up_same] at x; cases x
        exact ⟨av, eA, ra⟩
      · rw [up_ne z] at x
        exact r2 c u x
theorem de_lc {elt tg iter : Expr} {ifs : List Expr} {scope : Scope} {own : List (Str × Nat)} {pos : Pos} {wi : I1} {g : G1} {tt : T1} {te : E1} (hc : X.calm = true) (hN : X.N.Nodup) (hi : DI X tg iter wi) (ok : BlkOk X.N X.env.scope scope own)
    (hg : ∀ (s : Shared) (H : Hp) (C : Addr) (cl : List (Str × Addr)) (fp : List Addr), DG (X.blk s H scope (compEnvC scope cl C X.env) fp) (Pw (own.map (·.2))) tg g) (ht : ∀ (s : Shared) (H : Hp) (C : Addr) (cl : List (Str × Addr)) (fp : List Addr), DTs (X.blk s H scope (compEnvC scope cl C X.env) fp) ifs tt)
    (he : ∀ (s : Shared) (H : Hp) (C : Addr) (cl : List (Str × Addr)) (fp : List Addr), DE (X.blk s H scope (compEnvC scope cl C X.env) fp) elt te) (hs : ∀ x, foldedSetIterable iter X.env x = pure x := by intro _; rfl) :
    DE X (.ListComp elt [⟨tg, iter, ifs, 0⟩] scope pos) (dLc wi g tt te (own.map (·.2))) := weakE (pe_lc hc hN hi ok hg ht he hs) fun _ _ _ q => low_lc q
theorem ds_setLc (i : Nat) {y : Str} {py : Pos} {elt tg iter : Expr} {ifs : List Expr} {scope : Scope} {own : List (Str × Nat)} {pos spos : Pos} {wi : I1} {g : G1} {tt : T1} {te : E1} (hc : X.calm = true) (hN : X.N.Nodup) (hy : X.N[i]? = some y) (hyl : X.env.scope.names.lookup y = some .local)
    (hsw : swapsWith (.ListComp elt [⟨tg, iter, ifs, 0⟩] scope pos) (some (.Name y py)) spos.line X.env = pure true) (hi : DI X tg iter wi) (ok : BlkOk X.N X.env.scope scope own)
    (hg : ∀ (s : Shared) (H : Hp) (C : Addr) (cl : List (Str × Addr)) (fp : List Addr), DG (X.blk s H scope (compEnvC scope cl C X.env) fp) (Pw (own.map (·.2))) tg g) (ht : ∀ (s : Shared) (H : Hp) (C : Addr) (cl : List (Str × Addr)) (fp : List Addr), DTs (X.blk s H scope (compEnvC scope cl C X.env) fp) ifs tt)
    (he : ∀ (s : Shared) (H : Hp) (C : Addr) (cl : List (Str × Addr)) (fp : List Addr), DE (X.blk s H scope (compEnvC scope cl C X.env) fp) elt te) (hs : ∀ x, foldedSetIterable iter X.env x = pure x := by intro _; rfl) :
    DS X (.Assign [.Name y py] (.ListComp elt [⟨tg, iter, ifs, 0⟩] scope pos) spos) (dAsg (dLc wi g tt te (own.map (·.2))) (gN i)) :=
  weakS (ps_setLc (i := i) hc hN hy hyl hsw hi ok hg ht he hs) fun DV σV H ⟨D, σ, h, hE, hH, ht, hcl⟩ => low_lc ⟨σ, h, _, hE, hH, ht, fun d h' v H' s' r' rv q => hcl.nx _ h' _ H' s' ((hE.mono (Stp.mo hH s')).put rv) r' q⟩
end
end DL
namespace DL
open PySem PySem.Spec PyProof.Rows L2
/-! ### promises of defs that are called where nothing is being shown (repr asks that) -/
structure RoomG (k : Nat) (A : Around) : Prop where
  r : Room k A
  g : A.guards = some []
theorem RoomG.mono {j k : Nat} {A : Around} (q : RoomG k A) (h : j ≤ k) : RoomG j A := ⟨q.r.mono h, q.g⟩
theorem RoomG.deeper {k : Nat} {A : Around} (q : RoomG (k + 1) A) (e : Env) : RoomG k (A.deeper e) := ⟨q.r.deeper e, q.g⟩
structure FnG (P : Program) (w : World) (K : PySem.W.Frag) (mg : Str → Option Value) (base : Heap) (k : Nat) (f : Addr) (fd : FuncData) (ps : List Str) (sp : Sp) : Prop where
  len : ∀ vs H Q E, sp vs H Q E → vs.length = ps.length
  run : ∀ (A : Around) (outer : List Env) (s : Shared) (H : Hp) (args : Args) (us : List Value) (vs : List V) (Q : VK) (E : XK), RoomG k A → Env0 P w K mg base A outer s H → BindsTo s fd args (ps.zip us) → Vals vs us → sp vs H Q E → codeAny (model P w) A (.call (.ref f) args) (CR CX0 outer P w H s Q E) s
section
variable {P : Program} {w : World} {K : PySem.W.Frag} {mg : Str → Option Value} {base : Heap} {j k : Nat} {f : Addr} {fd : FuncData} {ps : List Str} {sp sp' : Sp}
theorem FnG.mono (F : FnG P w K mg base j f fd ps sp) (h : j ≤ k) : FnG P w K mg base k f fd ps sp := ⟨F.len, fun A o s H a us vs Q E q => F.run A o s H a us vs Q E (q.mono h)⟩
theorem FnG.imp (F : FnG P w K mg base k f fd ps sp) (h : ∀ vs H Q E, sp' vs H Q E → sp vs H Q E) : FnG P w K mg base k f fd ps sp' := ⟨fun vs H Q E q => F.len vs H Q E (h _ _ _ _ q), fun A o s H a us vs Q E q e b v z => F.run A o s H a us vs Q E q e b v (h _ _ _ _ z)⟩
/-- a def by its body -/
theorem fng_of {x qual : Str} {st : Stmt} {N : List Str} (F : Fun K x qual st f fd) (S : FnScope N ps (defScope st)) (len : ∀ vs H Q E, sp vs H Q E → vs.length = ps.length)
    (hb : ∀ (cdv : Value) (A : Around) (outer : List Env) (s : Shared) (H : Hp) (vs : List V) (Q : VK) (E : XK), RoomG k (A.deeper (envOfC qual (defScope st) s.heap.objs.size f cdv)) → sp vs H Q E →
      ∃ t, PSs (cxOf CX0 P w K mg base N qual (defScope st) f cdv A outer s H E) (defBody st) t ∧ t { nx := fun _ H' => Q .non H', rt := Q } (start N vs) H) : FnG P w K mg base (k + 1) f fd ps sp := by
  obtain ⟨oc, od, kV, doc, pm, an, cdv, ct, osl, rfl, lk, hcd⟩ := F.ex
  refine ⟨len, fun A outer s H args us vs Q E q e0 bt rv hs => ?_⟩
  have len1 := len _ _ _ _ hs
  have Kin : K.In s.heap := e0.mod.kin.keeps fun b o e => (e0.bs b o e).1
  have noLim : s.heap.NoLimit := e0.mod.nolimit.keeps fun b o e => (e0.bs b o e).1
  have kinds : ∀ y ∈ ps.zip us, (defScope st).names.lookup y.1 = some .local ∨ ((defScope st).names.lookup y.1 = some .cell ∧ ((cellsFrom (s.heap.objs.size + 1) (defScope st).names []).lookup y.1).isSome = true) := fun ⟨n, v⟩ hy =>
    (S.par n (List.of_mem_zip hy).1).elim .inl fun z => .inr ⟨z, PySem.W.cellsFrom_some _ _ _ (.inl z)⟩
  refine codeAny_call_function q.r.depth (Kin _ _ lk) rfl S.co S.gen rfl (PySem.W.codeRec_of Kin hcd) (bt _ _ _ _ (wpAny_newFunctionEnv_cells S.kind kinds fun env he s1 x => ?_))
  subst he
  refine ⟨noLim.keeps x.toInCall.keep, codeAny_func ?_⟩
  obtain ⟨t, ht, hq⟩ := hb cdv A outer s H vs Q E (q.deeper _) hs
  have I0 : Inv (cxOf CX0 P w K mg base N qual (defScope st) f cdv A outer s H E) [] (start N vs) H s1 := inv_start S q.r.hd e0 len1 rv x
  refine wpAny_mono (ht.run [] s1 (start N vs) H _ I0 hq) (fun fl s' z => ?_) fun _ _ z => z
  have out : ∀ {σ' : L2.St} {H' : Hp} {v : V} {u : Value}, Inv (cxOf CX0 P w K mg base N qual (defScope st) f cdv A outer s H E) [] σ' H' s' → RelV v u → Q v H' → CE outer P w H s Q u s' := fun {_ H' v _} J rv y => ⟨v, H', J.os, J.bare, J.base, J.hok, rv, y⟩
  cases fl with
  | ret u => exact let ⟨_, _, _, J, rv, y⟩ := z; out J rv y
  | next => exact let ⟨_, _, J, y⟩ := z; out (v := V.non) (u := Value.none) J rfl y
  | brk => exact let ⟨_, _, _, y⟩ := z; y.elim
  | cont => exact let ⟨_, _, _, y⟩ := z; y.elim
end
section
variable {X : Cx} {k : Nat} {f : Addr} {fd : FuncData} {ps : List Str} {sp : Sp} {E : XK} {x : Str} {p pos : Pos} {e : Expr} {es : List Expr} {t : TA}
theorem run_g {pins : List (Addr × Obj)} {σ : L2.St} {H : Hp} {s : Shared} {Q : VK} {us : List Value} {vs : List V} (F : FnG X.prog X.w X.K X.mg X.base k f fd ps sp) (q : RoomG k X.A) (b : Binds X.K fd ps []) (hx : Passes CX0 X E)
    (I : Inv X pins σ H s) (r : Vals vs us) (h : sp vs H Q E) : wpAny (model X.prog X.w) X.A (call (.ref f) us) (EP X pins σ Q) X.xe s := by
  have hl : (us ++ []).length = ps.length := by rw [List.append_nil, ← r.length]; exact F.len _ _ _ _ h
  have bt := b s us I.kIn hl
  rw [List.append_nil] at bt
  refine wpAny_call (codeAny_mono (F.run X.A X.stack s H ⟨us, []⟩ us vs Q E q I.env0 bt r h) fun r s' z => ?_)
  match r, z with
  | .error e, z => exact hx pins σ H s e s' I z
  | .ok (.ret u), z => exact I.after z
  | .ok .next, z => exact False.elim z
  | .ok .brk, z => exact False.elim z
  | .ok .cont, z => exact False.elim z
def tCallG (sp : Sp) (E : XK) (t : TA) : TE := fun σ H Q => t σ H fun vs H1 => sp vs H1 Q E
theorem pe_callG (F : FnG X.prog X.w X.K X.mg X.base k f fd ps sp) (q : RoomG k X.A) (hg : Gl X x) (hm : X.mg x = some (.ref f)) (hk : PySem.W.keepIn X.K (.ref f) = true) (hb : Binds X.K fd ps []) (hx : Passes CX0 X E)
    (ha : PA X (e :: es) t) (hdb : (x == ("__debug__" : Str)) = false := by decide) (he : starEach (e :: es) X.env = (false, eval e X.env) :: starEach es X.env := by rfl) (hpl : (backTo pos (starEach es X.env)).any (·.1) = false := by rfl) :
    PE X (.Call (.Name x p) (e :: es) [] pos) (tCallG sp E t) := ⟨fun pins s σ H Q I h =>
  wpAny_Call_Name_kw (ld_glob I hg hm (PySem.W.callWith_K (h₀ := X.base) I.ok.mod.kin hk (thn (ha.run pos pins s σ H _ I h) fun us s1 ⟨vs, H1, I1, r, z⟩ => ⟨I1.kIn, run_g F q hb hx I1 r z⟩) he hpl) hdb)⟩
theorem pe_callG0 (F : FnG X.prog X.w X.K X.mg X.base k f fd ps sp) (q : RoomG k X.A) (hg : Gl X x) (hm : X.mg x = some (.ref f)) (hk : PySem.W.keepIn X.K (.ref f) = true) (hb : Binds X.K fd ps []) (hx : Passes CX0 X E)
    (hdb : (x == ("__debug__" : Str)) = false := by decide) : PE X (.Call (.Name x p) [] [] pos) (tCallG sp E tNil) := ⟨fun pins s σ H Q I h =>
  wpAny_Call_Name_kw (ld_glob I hg hm (PySem.W.callWith_K0 I.kIn hk (run_g (us := []) F q hb hx I .nil h)) hdb)⟩
end
/-- the law's own call -/
theorem law_callG {P : Program} {w : World} {K : PySem.W.Frag} {mg mb : Str → Option Value} {k : Nat} {fa a : Addr} {fd : FuncData} {x : Str} {sp : Sp} {s : Shared} {vs : List Value} {ns : List Int}
    (KX : K.In s.heap) (hns : s.heap.Ns mainGlobals mg) (hb : s.heap.Ns builtinsNs mb) (hbb : ∀ x : Str, x ≠ "__name__" → mb x = bootBuiltins x) (lim : s.heap.NoLimit) (hg : s.gens = #[])
    (ha : s.heap.get? a = some { cls := .type "list", data := .seq vs.toArray }) (hi : IntsAre vs ns) (hl : ns.length ≤ sizeLine) (hr : RoomG k callerA)
    (F : ∀ base : Heap, K.In base → base.Ns mainGlobals mg → FnG P w K mg base k fa fd [x] sp) (bt : ∀ (s : Shared) (u : Value), BindsTo s fd ⟨[u], []⟩ [(x, u)])
    (hsp : ∀ H : Hp, Only H → SqL K H a (ns.map V.int) → sp [.ref a] H (fun v _ => v = .bl true) fun _ _ _ => False) :
    codeAny (model P w) callerA (.call (.ref fa) ⟨[.ref a], []⟩) (fun r s' => r = .ok (.ret (.bool true)) ∧ OldK s.heap s'.heap ∧ s'.os = s.os ∧ AllBare s'.gens) s := by
  have rv := vals_ints hi
  have core : ∀ H : Hp, Only H → SqL K H a (ns.map V.int) → HOk P w H s.heap → (∀ b, H b ≠ none → b = a) → (H a ≠ none → K.lookup a = none) → codeAny (model P w) callerA (.call (.ref fa) ⟨[.ref a], []⟩) (fun r s' => r = .ok (.ret (.bool true)) ∧ OldK s.heap s'.heap ∧ s'.os = s.os ∧ AllBare s'.gens) s := fun H only sq ok at_ free => by
    have dictFree : ∀ {b : Addr} {o : Obj} {es : Array DictEntry} {ep : Nat}, s.heap.get? b = some o → o.data = .dict es ep → H b = none := fun {b o es ep} e d => Classical.byContradiction fun n => by
      cases at_ b n
      rw [ha] at e; cases e
      exact nomatch (show Data.seq vs.toArray _ = Data.dict es ep from d)
    have keepNs : ∀ {b : Addr} {m : Str → Option Value}, s.heap.Ns b m → (hidT s.heap H).Ns b m := fun {b m} ⟨o, es, ep, e, d, r⟩ => ⟨o, es, ep, hidT_get e (dictFree e d), d, r⟩
    have KB : K.In (hidT s.heap H) := fun b o e => hidT_get (KX b o e) (Classical.byContradiction fun n => by
      cases at_ b n
      rw [free n] at e; cases e)
    have e0 : Env0 P w K mg (hidT s.heap H) callerA [] s H := ⟨rfl, ⟨KB, keepNs hns, ⟨mb, keepNs hb, hbb⟩, let ⟨mc, z1, z2⟩ := lim; ⟨mc, keepNs z1, z2⟩⟩, fun b o e => of_hidT e, Nat.le_of_eq (hidT_size _ _), trivial, fun b z => absurd (show b ∈ ([] : List Addr) from z) (by simp), ok, .of_eq hg⟩
    refine codeAny_mono ((F _ KB (keepNs hns)).run callerA [] s H ⟨[.ref a], []⟩ [.ref a] [.ref a] _ _ hr e0 (bt s (.ref a)) (.cons rfl .nil) (hsp H only sq)) fun r s' z => ?_
    match r, z with
    | .error e, z => exact (show False from z).elim
    | .ok .next, z => exact False.elim z
    | .ok .brk, z => exact False.elim z
    | .ok .cont, z => exact False.elim z
    | .ok (.ret u), z =>
      obtain ⟨v, H', os, bare, un, ok', r', q⟩ := z
      cases (show v = .bl true from q)
      cases (show u = Value.bool true from r')
      refine ⟨rfl, OldK.of_keep fun b o e => ?_, os, bare⟩
      cases q : H b with
      | none => exact un.keep b o e q (fun z => absurd (show b ∈ ([] : List Addr) from z) (by simp)) (by simp)
      | some u =>
        rcases only b with z | ⟨ob, xs, z⟩
        · rw [q] at z; cases z
        · obtain ⟨e1, _⟩ := ok b _ z
          obtain ⟨e2, _⟩ := ok' b _ (un.frzs b ob _ z)
          rw [e] at e1; cases e1
          exact e2
  have size : vs.toArray.size ≤ sizeLine := by rw [List.size_toArray, hi.length]; exact hl
  cases hk : K.lookup a with
  | some o =>
    have e := KX a o hk
    rw [ha] at e; cases e
    exact core (fun _ => none) (fun _ => .inl rfl) (.inr ⟨_, vs.toArray, _, hk, rfl, rfl, rfl, size, by simpa using rv⟩) (fun _ _ z => nomatch z) (fun _ z => absurd rfl z) fun z => absurd rfl z
  | none =>
    have other : ∀ {b : Addr} {o : HO}, (fun c => if c = a then some o else (none : Option HO)) b ≠ none → b = a := fun {b o} z => Classical.byContradiction fun n => z (if_neg n)
    refine core (fun b => if b = a then some (.frz { cls := .type "list", data := .seq vs.toArray } (.lst (ns.map V.int))) else none) (fun b => ?_) (.inl (.inr ⟨_, if_pos rfl⟩)) (fun b u z => ?_) (fun _ z => other z) fun _ => hk
    · by_cases n : b = a
      · exact .inr ⟨_, _, if_pos n⟩
      · exact .inl (if_neg n)
    · cases other (b := b) (fun n => by rw [z] at n; cases n)
      cases (if_pos rfl).symm.trans z
      exact ⟨ha, by rw [List.length_map]; exact hl, vs, _, rv, ha⟩
theorem walk_ofG {l : PySem.W.OpenLaw} {n k : Nat} {q : Program} {loose : List Str} {XP : (Str → Option Value) → Heap → Prop} {YP : World → Heap → Prop} {d : DefRec} {K : Params → PySem.W.Frag} {sp : PySem.W.Frag → Sp} {x : Str}
    (hn : l.most = some n) (hn2 : n ≤ sizeLine) (hdf : d.params.defaults = []) (hr : RoomG k callerA) (hY : ∀ (w : World) (h : Heap), YP w h → (K w.params).In h)
    (F : ∀ (w : World) (mg : Str → Option Value) (fa : Addr) (h : Heap), (K w.params).In h → h.Ns mainGlobals mg → mg d.name = some (.ref fa) →
      ∃ fd : FuncData, (∀ (s : Shared) (u : Value), BindsTo s fd ⟨[u], []⟩ [(x, u)]) ∧ ∀ base : Heap, (K w.params).In base → base.Ns mainGlobals mg → FnG l.prog w (K w.params) mg base k fa fd [x] (sp (K w.params)))
    (hsp : ∀ (K : PySem.W.Frag) (H : Hp) (a : Addr) (ns : List Int), ns.length ≤ n → Only H → SqL K H a (ns.map V.int) → sp K [.ref a] H (fun v _ => v = .bl true) fun _ _ _ => False) :
    PySem.W.WalkO q loose XP YP l.row.toRowW d [] (fun f vs => PySem.call f vs) := Att.attach_call hn hdf fun w s₀ s₁ mg mb fa o pm cd doc a vs ns G Y ho hd hcd hmg hobj hints hlen hg =>
  let ⟨fd, hb, hF⟩ := F w mg fa _ (hY w _ Y) G.T.g hmg
  law_callG (hY w _ Y) G.T.g G.T.b G.T.builtins G.T.nolimit hg hobj hints (Nat.le_trans hlen hn2) hr hF hb fun H only sq => hsp _ H a ns hlen only sq
end DL
namespace DL
open PySem PySem.Spec PyProof.Rows L2
section
variable {X : Cx}
/-! ### arguments, displays -/
def dNil : A1 := fun _ h Q => Q [] h
def dCons (t : E1) (r : A1) : A1 := fun σ h Q => t σ h fun x h1 => r σ h1 fun xs h2 => Q (x :: xs) h2
theorem da_nil : DA X [] dNil := weakA pa_nil fun σV H QV ⟨σ, h, Q, hE, hH, ht, hc⟩ => hc [] h [] H Stp.refl hH rfl ht
theorem da_cons {e : Expr} {es : List Expr} {t : E1} {r : A1} (a : DE X e t) (b : DA X es r) (hs : starEach (e :: es) X.env = (false, eval e X.env) :: starEach es X.env := by rfl) : DA X (e :: es) (dCons t r) :=
  weakA (pa_cons a b hs) fun σV H QV ⟨σ, h, Q, hE, hH, ht, hc⟩ => by
    refine ⟨σ, h, _, hE, hH, ht, fun x h1 v H1 s1 hH1 r1 q1 => ?_⟩
    refine ⟨σ, h1, _, hE.mono (Stp.mo hH s1), hH1, q1, fun xs h2 vs H2 s2 hH2 r2 q2 => ?_⟩
    exact hc (x :: xs) h2 _ H2 (s1.trans s2) hH2 (RepVs.cons (RepV.mono (Stp.mo hH1 s2) _ r1) r2) q2
def dTup (t : A1) : E1 := fun σ h Q => t σ h fun ds h1 => ds.length ≤ sizeLine ∧ Q (.tup ds) h1
def dLst (t : A1) : E1 := fun σ h Q => t σ h fun ds h1 => ds.length ≤ sizeLine ∧ ∀ p, h1 p = none → Q (.ref p) (up h1 p (.lst ds))
theorem de_tup {es : List Expr} {t : A1} {k : Nat} {pos : Pos} (a : DA X es t) : DE X (.Tuple es k pos) (dTup t) := weakE (pe_tup a) fun σV H QV ⟨σ, h, Q, hE, hH, ht, hc⟩ =>
  ⟨σ, h, _, hE, hH, ht, fun ds h1 vs H1 s1 hH1 r1 q => ⟨by rw [← r1.length]; exact q.1, fun p n => (hc.step s1).tup hH1 n r1 q.2⟩⟩
theorem de_lst {es : List Expr} {t : A1} {pos : Pos} (a : DA X es t) : DE X (.List es pos) (dLst t) := weakE (pe_lst a) fun σV H QV ⟨σ, h, Q, hE, hH, ht, hc⟩ =>
  ⟨σ, h, _, hE, hH, ht, fun ds h1 vs H1 s1 hH1 r1 q => ⟨by rw [← r1.length]; exact q.1, fun p n => (hc.step s1).new hH1 n r1 (q.2 p (hH1.nofresh n))⟩⟩
/-! ### calls of built-ins -/
abbrev C1 := List D → MH → KD → Prop
def lowC (K : KW) (r : C1) : List V → Hp → VK → Prop := fun vs H QV => ∃ ds h Q, RepVs K H ds vs ∧ RepH K h H ∧ r ds h Q ∧ Cl K h H Q QV
def dCall (r : C1) (t : A1) : E1 := fun σ h Q => t σ h fun ds h1 => r ds h1 Q
theorem low_call {K : KW} {r : C1} {t : A1} {σV : L2.St} {H : Hp} {QV : VK} (q : lowE K (dCall r t) σV H QV) : tCB (lowC K r) (lowA K t) σV H QV := by
  obtain ⟨σ, h, Q, hE, hH, ht, hc⟩ := q
  exact ⟨σ, h, _, hE, hH, ht, fun ds h1 vs H1 s1 hH1 r1 q => ⟨ds, h1, Q, r1, hH1, q, hc.step s1⟩⟩
theorem callR_of {f : Value} {r' : List V → Hp → VK → Prop} (h : ∀ xs H Q, r' xs H Q → ∃ r, CallR X f r ∧ r xs H Q) : CallR X f r' := fun pins s σ H xs us Q I rx hr =>
  let ⟨r, ho, hq⟩ := h xs H Q hr
  ho pins s σ H xs us Q I rx hq
theorem de_callB {id : String} {r : C1} {x : Str} {e : Expr} {es : List Expr} {t : A1} {p pos : Pos} (hc : CallR X (.builtin id) (lowC X.kw r)) (hg : Gl X x) (hm : X.mg x = none) (hv : bootBuiltins x = some (.builtin id)) (ha : DA X (e :: es) t) (hn : x ≠ "__name__" := by decide) (hdb : (x == ("__debug__" : Str)) = false := by decide)
    (he : starEach (e :: es) X.env = (false, eval e X.env) :: starEach es X.env := by rfl) (hpl : (backTo pos (starEach es X.env)).any (·.1) = false := by rfl) : DE X (.Call (.Name x p) (e :: es) [] pos) (dCall r t) :=
  weakE (pe_callB hc hg hm hv ha hn hdb he hpl) fun _ _ _ q => low_call q
theorem de_callTy {T : String} {r : C1} {x : Str} {e : Expr} {es : List Expr} {t : A1} {p pos : Pos} (hc : CallR X (.type T) (lowC X.kw r)) (hg : Gl X x) (hm : X.mg x = none) (hv : bootBuiltins x = some (.type T)) (ha : DA X (e :: es) t) (hn : x ≠ "__name__" := by decide) (hdb : (x == ("__debug__" : Str)) = false := by decide)
    (he : starEach (e :: es) X.env = (false, eval e X.env) :: starEach es X.env := by rfl) (hpl : (backTo pos (starEach es X.env)).any (·.1) = false := by rfl) : DE X (.Call (.Name x p) (e :: es) [] pos) (dCall r t) :=
  weakE (pe_callTy hc hg hm hv ha hn hdb he hpl) fun _ _ _ q => low_call q
theorem de_ty {T : String} {x : Str} {pos : Pos} (hg : Gl X x) (hm : X.mg x = none) (hv : bootBuiltins x = some (.type T)) (hn : x ≠ "__name__" := by decide) (hd : (x == ("__debug__" : Str)) = false := by decide) : DE X (.Name x pos) (dC (.ty T)) :=
  de_c (pe_bltn (v := .ty T) hg hm hv rfl hn hd) fun _ => rfl
theorem rep1 {K : KW} {H : Hp} {d : D} {vs : List V} (r : RepVs K H [d] vs) : ∃ v, vs = [v] ∧ RepV K H d v := by
  obtain ⟨v, u, rfl, a, b⟩ := r
  cases (show u = [] from b)
  exact ⟨v, rfl, a⟩
theorem rep2 {K : KW} {H : Hp} {d e : D} {vs : List V} (r : RepVs K H [d, e] vs) : ∃ v u, vs = [v, u] ∧ RepV K H d v ∧ RepV K H e u := by
  obtain ⟨v, u, rfl, a, b⟩ := r
  obtain ⟨w, rfl, c⟩ := rep1 b
  exact ⟨v, w, rfl, a, c⟩
def on1 (r : D → MH → KD → Prop) : C1 := fun ds h Q => match ds with
  | [d] => r d h Q
  | _ => False
def on2 (r : R1) : C1 := fun ds h Q => match ds with
  | [d, e] => r d e h Q
  | _ => False
theorem on1_inv {r : D → MH → KD → Prop} {ds : List D} {h : MH} {Q : KD} (q : on1 r ds h Q) : ∃ d, ds = [d] ∧ r d h Q := by
  unfold on1 at q
  split at q
  · exact ⟨_, rfl, q⟩
  · exact q.elim
theorem on2_inv {r : R1} {ds : List D} {h : MH} {Q : KD} (q : on2 r ds h Q) : ∃ d e, ds = [d, e] ∧ r d e h Q := by
  unfold on2 at q
  split at q
  · exact ⟨_, _, rfl, q⟩
  · exact q.elim
theorem callR_1 {f : Value} {r : D → MH → KD → Prop} (h : ∀ (x : V) (d : D) (h : MH) (H : Hp) (Q : KD) (QV : VK), RepV X.kw H d x → RepH X.kw h H → r d h Q → Cl X.kw h H Q QV → ∃ r, CallR X f r ∧ r [x] H QV) : CallR X f (lowC X.kw (on1 r)) :=
  callR_of fun xs H QV ⟨ds, m, Q, rv, hH, hr, hc⟩ => by
    obtain ⟨d, rfl, q⟩ := on1_inv hr
    obtain ⟨x, rfl, rx⟩ := rep1 rv
    exact h x d m H Q QV rx hH q hc
theorem callR_2 {f : Value} {r : R1} (h : ∀ (x y : V) (d e : D) (h : MH) (H : Hp) (Q : KD) (QV : VK), RepV X.kw H d x → RepV X.kw H e y → RepH X.kw h H → r d e h Q → Cl X.kw h H Q QV → ∃ r, CallR X f r ∧ r [x, y] H QV) : CallR X f (lowC X.kw (on2 r)) :=
  callR_of fun xs H QV ⟨ds, m, Q, rv, hH, hr, hc⟩ => by
    obtain ⟨d, e, rfl, q⟩ := on2_inv hr
    obtain ⟨x, y, rfl, rx, ry⟩ := rep2 rv
    exact h x y d e m H Q QV rx ry hH q hc
def seqK (k : List D → Prop) : Option (List D) → Prop
  | some ds => k ds
  | none => False
/-- len -/
def lenO (h : MH) (Q : KD) : Option MO → Prop
  | some (.lst ds) => Q (.int ds.length) h
  | some (.dic kvs) => Q (.int kvs.length) h
  | _ => False
def lenD (x : D) (h : MH) (Q : KD) : Prop := match x with
  | .str z => Q (.int z.length) h
  | .tup ds => Q (.int ds.length) h
  | .rol ds => Q (.int ds.length) h
  | .ref a => lenO h Q (h a)
  | _ => False
def rLenN (X : Cx) : List V → Hp → VK → Prop := fun vs H Q => ∃ a kvs, vs = [.ref a] ∧ RepO X.kw H a (.dic kvs) ∧ Q (.int kvs.length) H
theorem call_lenN : CallR X (.builtin "len") (rLenN X) := by
  intro pins s σ H xs us Q I rx ⟨a, kvs, ex, ro, q⟩
  rcases id ro with ⟨kv, e, r⟩ | ⟨xs', r⟩
  · exact call_lenD pins s σ H xs us Q I rx ⟨a, kv, ex, e, by rw [← r.length]; exact q⟩
  · subst ex
    cases rx with
    | cons r1 r2 =>
      cases r2
      cases r1
      have low := r.low
      have D : NDict X H a xs' := ⟨r.at_, r.low, by rw [← r.rep.length]; exact r.len, r.rep.keys r.tup, r.nd⟩
      have hl := r.len
      rw [sizeLine_eq] at hl
      have el : xs'.length = kvs.length := r.rep.length.symm
      obtain ⟨ys, dh, p⟩ := D.heap I
      have ey : (pairsH ys).length = kvs.length := by rw [pairsH_length, ← p.length]; exact el
      refine PyProof.Rows.call_len_slot (n := kvs.length) (dic_type I ro) PySem.F.slot_dict_len (fun Q' hq => len_keyed (knd := nkd X) low ⟨ys, dh, rfl⟩ (by rw [ey]; exact hq)) (by omega) (by omega) ?_
      exact ⟨.int _, H, I.tok _, ⟨_, rfl⟩, q⟩
theorem xd_len : CallR X (.builtin "len") (lowC X.kw (on1 lenD)) := callR_1 fun x d h H Q QV rx hH hr hc => by
  have sq : ∀ {a : Addr} {vs : List V} {ds : List D}, x = .ref a → (SqL X.K H a vs ∨ SqT X.K H a vs) → RepVs X.kw H ds vs → Q (.int ds.length) h → ∃ r, CallR X (.builtin "len") r ∧ r [x] H QV := by
    rintro a vs ds rfl hs rv hr
    refine ⟨_, call_len_seq, a, vs, rfl, hs, ?_⟩
    rw [← rv.length]
    exact hc.int hH hr
  cases d with
  | str z =>
    obtain ⟨rfl, ok⟩ := rx
    exact ⟨_, call_len_str, z, rfl, ok.1, hc.int hH hr⟩
  | tup ds => obtain ⟨a, vs, ex, st, rs⟩ := rx; exact sq ex (.inr st) rs hr
  | rol ds => obtain ⟨a, vs, ex, st, rs⟩ := rx; exact sq ex (.inl st.sq) rs hr
  | ref a =>
    have ex : x = .ref a := rx
    have hr : lenO h Q (h a) := hr
    cases q : h a with
    | none => rw [q] at hr; exact hr.elim
    | some o =>
      rw [q] at hr
      cases o with
      | lst ds =>
        obtain ⟨vs, eH, rs⟩ := hH a _ q
        exact sq ex (.inl (SqL.of eH)) rs hr
      | dic kvs =>
        subst ex
        exact ⟨_, call_lenN, a, kvs, rfl, hH a _ q, hc.int hH hr⟩
      | ins _ _ => exact hr.elim
      | fdic _ _ => exact hr.elim
  | _ => exact hr.elim
/-- tuple(xs) -/
def tupleD (x : D) (h : MH) (Q : KD) : Prop := seqK (fun ds => Q (.tup ds) h) (seqOf h x)
theorem xd_tuple : CallR X (.type "tuple") (lowC X.kw (on1 tupleD)) := callR_1 fun x d h H Q QV rx hH hr hc => by
  unfold tupleD at hr
  cases q : seqOf h d with
  | none => rw [q] at hr; exact hr.elim
  | some ds =>
    rw [q] at hr
    obtain ⟨a, vs, rfl, rv, hs⟩ := seq_rep hH rx q
    refine ⟨_, call_tuple_of, a, vs, rfl, ?_⟩
    rcases hs with hs | hs
    · exact .inl ⟨hs, fun l n => hc.tup hH n rv hr⟩
    · exact .inr ⟨hs, hc.val hH (d := .tup ds) ⟨a, vs, rfl, hs, rv⟩ hr⟩
/-- list(xs) -/
def listD (x : D) (h : MH) (Q : KD) : Prop := seqK (fun ds => ∀ p, h p = none → Q (.ref p) (up h p (.lst ds))) (seqOf h x)
theorem xd_list : CallR X (.type "list") (lowC X.kw (on1 listD)) := callR_1 fun x d h H Q QV rx hH hr hc => by
  unfold listD at hr
  cases q : seqOf h d with
  | none => rw [q] at hr; exact hr.elim
  | some ds =>
    rw [q] at hr
    obtain ⟨a, vs, rfl, rv, hs⟩ := seq_rep hH rx q
    exact ⟨_, call_list_of, a, vs, rfl, hs, fun l n => hc.new hH n rv (hr l (hH.nofresh n))⟩
/-- abs, int -/
def absD (x : D) (h : MH) (Q : KD) : Prop := match x with
  | .int i => Q (.int (if i < 0 then -i else i)) h
  | _ => False
theorem xd_abs : CallR X (.builtin "abs") (lowC X.kw (on1 absD)) := callR_1 fun x d h H Q QV rx hH hr hc => by
  cases d <;> try exact hr.elim
  case int i =>
    cases (show x = _ from rx)
    exact ⟨_, call_abs, i, rfl, hc.int hH hr⟩
def intD (x : D) (h : MH) (Q : KD) : Prop := match x with
  | .int i => Q (.int i) h
  | .bool b => Q (.int (if b = true then 1 else 0)) h
  | _ => False
theorem xd_int : CallR X (.type "int") (lowC X.kw (on1 intD)) := callR_1 fun x d h H Q QV rx hH hr hc => by
  cases d <;> try exact hr.elim
  case int i =>
    cases (show x = _ from rx)
    exact ⟨_, call_int1, .inl ⟨i, rfl, hc.int hH hr⟩⟩
  case bool b =>
    cases (show x = _ from rx)
    exact ⟨_, call_int1, .inr ⟨b, rfl, hc.int hH hr⟩⟩
/-- isinstance -/
def tyS (o : Option MO) : Option String := match o with
  | some (.lst _) => some "list"
  | _ => none
def tyN (h : MH) : D → Option String
  | .none => some "NoneType"
  | .bool _ => some "bool"
  | .int _ => some "int"
  | .str _ => some "str"
  | .tup _ => some "tuple"
  | .rol _ => some "list"
  | .ref a => tyS (h a)
  | .ty _ => none
def kitK (k : Bool → Prop) : Option Bool → Prop
  | some b => k b
  | none => False
def isiK (n : String) (k : Bool → Prop) : Option String → Prop
  | some t => kitK k (kitB t n)
  | none => False
def isiD : R1 := fun x y h Q => match y with
  | .ty n => isiK n (fun b => Q (.bool b) h) (tyN h x)
  | _ => False
theorem ty_rep {h : MH} {H : Hp} (hH : RepH X.kw h H) : ∀ {d : D} {v : V} {t : String}, RepV X.kw H d v → tyN h d = some t → TyX X.K H v (.type t)
  | .none, _, _, r, e => by cases e; cases (show _ = _ from r); exact .base .non
  | .bool b, _, _, r, e => by cases e; cases (show _ = _ from r); exact .base (.bl b)
  | .int i, _, _, r, e => by cases e; cases (show _ = _ from r); exact .base (.int i)
  | .str z, _, _, r, e => by cases e; obtain ⟨rfl, _⟩ := r; exact .base (.str z)
  | .tup ds, _, _, r, e => by
    cases e
    obtain ⟨a, vs, rfl, s, _⟩ := r
    rcases s with (s | ⟨o, s⟩) | ⟨o, its, n, s, c, _⟩
    · exact .base (.tup s)
    · exact .fTuple s
    · exact .kTuple s c
  | .rol ds, _, _, r, e => by
    cases e
    obtain ⟨a, vs, rfl, s, _⟩ := r
    rcases s with ⟨o, s⟩ | ⟨o, its, n, s, c, _⟩
    · exact .base (.frz s)
    · exact .kList s c
  | .ref a, _, t, r, e => by
    cases (show _ = V.ref a from r)
    have e : tyS (h a) = some t := e
    cases q : h a with
    | none => rw [q] at e; cases e
    | some o =>
      cases o with
      | lst ds =>
        rw [q] at e; cases e
        obtain ⟨vs, eH, _⟩ := hH a _ q
        exact .base (.lst eH)
      | dic _ => rw [q] at e; cases e
      | ins _ _ => rw [q] at e; cases e
      | fdic _ _ => rw [q] at e; cases e
  | .ty _, _, _, _, e => by cases e
theorem xd_isi : CallR X (.builtin "isinstance") (lowC X.kw (on2 isiD)) := callR_2 fun x y d e h H Q QV rx ry hH hr hc => by
  cases e <;> try exact hr.elim
  case ty n =>
    cases (show y = _ from ry)
    have hr : isiK n (fun b => Q (.bool b) h) (tyN h d) := hr
    cases q : tyN h d with
    | none => rw [q] at hr; exact hr.elim
    | some t =>
      rw [q] at hr
      have hr : kitK (fun b => Q (.bool b) h) (kitB t n) := hr
      cases q2 : kitB t n with
      | none => rw [q2] at hr; exact hr.elim
      | some b =>
        rw [q2] at hr
        exact ⟨_, call_isi, x, .ty n, .type t, .type n, b, rfl, .ty n, ty_rep hH rx q, kit_ty q2, hc.bl hH hr⟩
/-- all, any, sum -/
def blsOf : List D → Option (List Bool)
  | [] => some []
  | .bool b :: r => (blsOf r).map (b :: ·)
  | _ :: _ => none
def intsOf : List D → Option (List Int)
  | [] => some []
  | .int b :: r => (intsOf r).map (b :: ·)
  | _ :: _ => none
def strsOf : List D → Option (List Str)
  | [] => some []
  | .str b :: r => (strsOf r).map (b :: ·)
  | _ :: _ => none
theorem blsOf_rep {K : KW} {H : Hp} : ∀ {ds : List D} {vs : List V} {bs : List Bool}, RepVs K H ds vs → blsOf ds = some bs → vs = bs.map V.bl
  | [], _, _, r, e => by cases e; exact r
  | .bool b :: ds, _, bs, r, e => by
    obtain ⟨v, u, rfl, h1, h2⟩ := r
    unfold blsOf at e
    cases q : blsOf ds with
    | none => rw [q] at e; cases e
    | some cs => rw [q] at e; cases e; rw [blsOf_rep h2 q]; cases (show v = _ from h1); rfl
  | .none :: _, _, _, _, e => by cases e
  | .int _ :: _, _, _, _, e => by cases e
  | .str _ :: _, _, _, _, e => by cases e
  | .tup _ :: _, _, _, _, e => by cases e
  | .rol _ :: _, _, _, _, e => by cases e
  | .ref _ :: _, _, _, _, e => by cases e
  | .ty _ :: _, _, _, _, e => by cases e
theorem intsOf_rep {K : KW} {H : Hp} : ∀ {ds : List D} {vs : List V} {bs : List Int}, RepVs K H ds vs → intsOf ds = some bs → vs = bs.map V.int
  | [], _, _, r, e => by cases e; exact r
  | .int b :: ds, _, bs, r, e => by
    obtain ⟨v, u, rfl, h1, h2⟩ := r
    unfold intsOf at e
    cases q : intsOf ds with
    | none => rw [q] at e; cases e
    | some cs => rw [q] at e; cases e; rw [intsOf_rep h2 q]; cases (show v = _ from h1); rfl
  | .none :: _, _, _, _, e => by cases e
  | .bool _ :: _, _, _, _, e => by cases e
  | .str _ :: _, _, _, _, e => by cases e
  | .tup _ :: _, _, _, _, e => by cases e
  | .rol _ :: _, _, _, _, e => by cases e
  | .ref _ :: _, _, _, _, e => by cases e
  | .ty _ :: _, _, _, _, e => by cases e
theorem strsOf_rep {K : KW} {H : Hp} : ∀ {ds : List D} {vs : List V} {bs : List Str}, RepVs K H ds vs → strsOf ds = some bs → vs = bs.map V.str ∧ ∀ z ∈ bs, okS z
  | [], _, _, r, e => by cases e; exact ⟨r, fun _ z => by cases z⟩
  | .str b :: ds, _, bs, r, e => by
    obtain ⟨v, u, rfl, h1, h2⟩ := r
    unfold strsOf at e
    cases q : strsOf ds with
    | none => rw [q] at e; cases e
    | some cs =>
      rw [q] at e; cases e
      obtain ⟨a, b'⟩ := strsOf_rep h2 q
      obtain ⟨rfl, ok⟩ := h1
      exact ⟨by rw [a]; rfl, fun z hz => (List.mem_cons.mp hz).elim (fun e => e ▸ ok) (b' z)⟩
  | .none :: _, _, _, _, e => by cases e
  | .bool _ :: _, _, _, _, e => by cases e
  | .int _ :: _, _, _, _, e => by cases e
  | .tup _ :: _, _, _, _, e => by cases e
  | .rol _ :: _, _, _, _, e => by cases e
  | .ref _ :: _, _, _, _, e => by cases e
  | .ty _ :: _, _, _, _, e => by cases e
theorem blsOf_map (bs : List Bool) : blsOf (bs.map D.bool) = some bs := by
  induction bs with
  | nil => rfl
  | cons b r ih => show (blsOf (r.map D.bool)).map (b :: ·) = _; rw [ih]; rfl
theorem intsOf_map (bs : List Int) : intsOf (bs.map D.int) = some bs := by
  induction bs with
  | nil => rfl
  | cons b r ih => show (intsOf (r.map D.int)).map (b :: ·) = _; rw [ih]; rfl
theorem strsOf_map (bs : List Str) : strsOf (bs.map D.str) = some bs := by
  induction bs with
  | nil => rfl
  | cons b r ih => show (strsOf (r.map D.str)).map (b :: ·) = _; rw [ih]; rfl
def blsK (k : List Bool → Prop) (h : MH) : D → Prop
  | .ref a => seqK (fun ds => ∃ bs, blsOf ds = some bs ∧ k bs) (seqO (h a))
  | .rol ds => ∃ bs, blsOf ds = some bs ∧ k bs
  | _ => False
def allD (x : D) (h : MH) (Q : KD) : Prop := blsK (fun bs => Q (.bool (bs.all id)) h) h x
def anyD (x : D) (h : MH) (Q : KD) : Prop := blsK (fun bs => Q (.bool (bs.any id)) h) h x
theorem blsK_rep {k : List Bool → Prop} {h : MH} {H : Hp} (hH : RepH X.kw h H) {d : D} {v : V} (r : RepV X.kw H d v) (q : blsK k h d) : ∃ a bs, v = .ref a ∧ SqL X.K H a (bs.map V.bl) ∧ k bs := by
  cases d <;> try exact q.elim
  case ref a =>
    cases (show v = _ from r)
    have q : seqK (fun ds => ∃ bs, blsOf ds = some bs ∧ k bs) (seqO (h a)) := q
    cases e : h a with
    | none => rw [e] at q; exact q.elim
    | some o =>
      cases o with
      | lst ds =>
        rw [e] at q
        obtain ⟨bs, e1, kb⟩ := q
        obtain ⟨vs, eH, rv⟩ := hH a _ e
        have := blsOf_rep rv e1
        subst this
        exact ⟨a, bs, rfl, SqL.of eH, kb⟩
      | dic _ => rw [e] at q; exact q.elim
      | ins _ _ => rw [e] at q; exact q.elim
      | fdic _ _ => rw [e] at q; exact q.elim
  case rol ds =>
    obtain ⟨a, vs, rfl, s, rv⟩ := r
    obtain ⟨bs, e1, kb⟩ := q
    have := blsOf_rep rv e1
    subst this
    exact ⟨a, bs, rfl, s.sq, kb⟩
theorem xd_all (hc : X.calm = true) : CallR X (.builtin "all") (lowC X.kw (on1 allD)) := callR_1 fun x d h H Q QV rx hH hr hcl => by
  obtain ⟨a, bs, rfl, s, q⟩ := blsK_rep hH rx hr
  exact ⟨_, cr_all hc, a, bs, rfl, s, hcl.bl hH q⟩
theorem xd_any (hc : X.calm = true) : CallR X (.builtin "any") (lowC X.kw (on1 anyD)) := callR_1 fun x d h H Q QV rx hH hr hcl => by
  obtain ⟨a, bs, rfl, s, q⟩ := blsK_rep hH rx hr
  exact ⟨_, cr_any hc, a, bs, rfl, s, hcl.bl hH q⟩
def intsK (k : List Int → Prop) (h : MH) : D → Prop
  | .ref a => seqK (fun ds => ∃ bs, intsOf ds = some bs ∧ k bs) (seqO (h a))
  | .rol ds => ∃ bs, intsOf ds = some bs ∧ k bs
  | _ => False
theorem intsK_rep {k : List Int → Prop} {h : MH} {H : Hp} (hH : RepH X.kw h H) {d : D} {v : V} (r : RepV X.kw H d v) (q : intsK k h d) : ∃ a bs, v = .ref a ∧ SqL X.K H a (bs.map V.int) ∧ k bs := by
  cases d <;> try exact q.elim
  case ref a =>
    cases (show v = _ from r)
    have q : seqK (fun ds => ∃ bs, intsOf ds = some bs ∧ k bs) (seqO (h a)) := q
    cases e : h a with
    | none => rw [e] at q; exact q.elim
    | some o =>
      cases o with
      | lst ds =>
        rw [e] at q
        obtain ⟨bs, e1, kb⟩ := q
        obtain ⟨vs, eH, rv⟩ := hH a _ e
        have := intsOf_rep rv e1
        subst this
        exact ⟨a, bs, rfl, SqL.of eH, kb⟩
      | dic _ => rw [e] at q; exact q.elim
      | ins _ _ => rw [e] at q; exact q.elim
      | fdic _ _ => rw [e] at q; exact q.elim
  case rol ds =>
    obtain ⟨a, vs, rfl, s, rv⟩ := r
    obtain ⟨bs, e1, kb⟩ := q
    have := intsOf_rep rv e1
    subst this
    exact ⟨a, bs, rfl, s.sq, kb⟩
def sumD (x : D) (h : MH) (Q : KD) : Prop := intsK (fun bs => Q (.int bs.sum) h) h x
theorem xd_sum (hc : X.calm = true) : CallR X (.builtin "sum") (lowC X.kw (on1 sumD)) := callR_1 fun x d h H Q QV rx hH hr hcl => by
  obtain ⟨a, bs, rfl, s, q⟩ := intsK_rep hH rx hr
  exact ⟨_, cr_sum hc, a, bs, rfl, s, hcl.int hH q⟩
def max2D : R1 := fun x y h Q => match x, y with
  | .int i, .int j => Q (.int (if j > i then j else i)) h
  | _, _ => False
def min2D : R1 := fun x y h Q => match x, y with
  | .int i, .int j => Q (.int (if j < i then j else i)) h
  | _, _ => False
theorem xd_max2 (hc : X.calm = true) : CallR X (.builtin "max") (lowC X.kw (on2 max2D)) := callR_2 fun x y d e h H Q QV rx ry hH hr hcl => by
  cases d <;> cases e <;> try exact hr.elim
  case int.int i j =>
    cases (show x = _ from rx)
    cases (show y = _ from ry)
    exact ⟨_, call_max2 hc, i, j, rfl, hcl.int hH hr⟩
theorem xd_min2 (hc : X.calm = true) : CallR X (.builtin "min") (lowC X.kw (on2 min2D)) := callR_2 fun x y d e h H Q QV rx ry hH hr hcl => by
  cases d <;> cases e <;> try exact hr.elim
  case int.int i j =>
    cases (show x = _ from rx)
    cases (show y = _ from ry)
    exact ⟨_, call_min2 hc, i, j, rfl, hcl.int hH hr⟩
/-! ### methods of lists and texts -/
abbrev M1 := D → List D → MH → KD → Prop
def lowM (K : KW) (r : M1) : V → List V → Hp → VK → Prop := fun x vs H QV => ∃ d ds h Q, RepV K H d x ∧ RepVs K H ds vs ∧ RepH K h H ∧ r d ds h Q ∧ Cl K h H Q QV
theorem mtR_of {id : String} {r' : V → List V → Hp → VK → Prop} (h : ∀ x xs H Q, r' x xs H Q → ∃ r, MtR X id r ∧ r x xs H Q) : MtR X id r' := fun pins s σ H x xs v us Q I rx rs hr =>
  let ⟨r, ho, hq⟩ := h x xs H Q hr
  ho pins s σ H x xs v us Q I rx rs hq
def isLst (o : Option MO) : Prop := match o with
  | some (.lst _) => True
  | _ => False
def okL (x : D) (h : MH) : Prop := match x with
  | .ref a => isLst (h a)
  | _ => False
theorem okL_rep {h : MH} {H : Hp} (hH : RepH X.kw h H) {d : D} {v : V} (r : RepV X.kw H d v) (q : okL d h) : tyV X.K "list" v H := by
  cases d <;> try exact q.elim
  case ref a =>
    cases (show v = _ from r)
    have q : isLst (h a) := q
    cases e : h a with
    | none => rw [e] at q; exact q.elim
    | some o =>
      cases o with
      | lst ds =>
        obtain ⟨vs, eH, _⟩ := hH a _ e
        exact .inl ⟨rfl, vs, SqL.of eH⟩
      | dic _ => rw [e] at q; exact q.elim
      | ins _ _ => rw [e] at q; exact q.elim
      | fdic _ _ => rw [e] at q; exact q.elim
def dBM0 (ok : D → MH → Prop) (r : M1) (to : E1) : E1 := fun σ h Q => to σ h fun x h1 => ok x h1 ∧ r x [] h1 Q
def dBM (ok : D → MH → Prop) (r : M1) (to : E1) (t : A1) : E1 := fun σ h Q => to σ h fun x h1 => ok x h1 ∧ t σ h1 fun ds h2 => r x ds h2 Q
theorem de_lm0 {o : Expr} {to : E1} {r : M1} {name : Str} {id : String} {apos cpos : Pos} (slot : Slot "list" name id) (hty : typeOf (.builtin id) = pure (.type "method_descriptor")) (hm : MtR X id (lowM X.kw r)) (ho : DE X o to)
    (hbase : attributeBase o name X.env (eval o X.env) = eval o X.env := by rfl) (hline : (apos.endLine == cpos.line) = true := by rfl) : DE X (.Call (.Attribute o name apos) [] [] cpos) (dBM0 okL r to) :=
  weakE (pe_bm0 PySem.F.plainAttrs_list slot hty hm ho hbase hline) fun σV H QV ⟨σ, h, Q, hE, hH, ht, hc⟩ => ⟨σ, h, _, hE, hH, ht, fun x h1 v H1 s1 hH1 r1 q => ⟨okL_rep hH1 r1 q.1, x, [], h1, Q, r1, rfl, hH1, q.2, hc.step s1⟩⟩
theorem de_lm {o e : Expr} {es : List Expr} {to : E1} {t : A1} {r : M1} {name : Str} {id : String} {apos cpos : Pos} (slot : Slot "list" name id) (hty : typeOf (.builtin id) = pure (.type "method_descriptor")) (hm : MtR X id (lowM X.kw r)) (ho : DE X o to) (ha : DA X (e :: es) t)
    (hbase : attributeBase o name X.env (eval o X.env) = eval o X.env := by rfl)
    (hfew : ((backTo cpos (starEach (e :: es) X.env)).all (fun x => !x.1) && (backToKw cpos (keywordEach [] X.env)).all (fun x => x.1.isSome)
      && decide ((e :: es).length + ([] : List Keyword).length + (if ([] : List Keyword).isEmpty then 0 else 1) < 30)) = true := by rfl)
    (hline : (apos.endLine == cpos.line) = true := by rfl) (hs : starEach (e :: es) X.env = (false, eval e X.env) :: starEach es X.env := by rfl) (hplain : (backTo cpos (starEach es X.env)).any (·.1) = false := by rfl) :
    DE X (.Call (.Attribute o name apos) (e :: es) [] cpos) (dBM okL r to t) :=
  weakE (pe_bm PySem.F.plainAttrs_list slot hty hm ho ha hbase hfew hline hs hplain) fun σV H QV ⟨σ, h, Q, hE, hH, ht, hc⟩ => ⟨σ, h, _, hE, hH, ht, fun x h1 v H1 s1 hH1 r1 q => ⟨okL_rep hH1 r1 q.1, σ, h1, _, hE.mono (Stp.mo hH s1), hH1, q.2,
    fun ds h2 vs H2 s2 hH2 r2 q2 => ⟨x, ds, h2, Q, RepV.mono (Stp.mo hH1 s2) _ r1, r2, hH2, q2, hc.step (s1.trans s2)⟩⟩⟩
def lstK (k : List D → Prop) : Option MO → Prop
  | some (.lst xs) => k xs
  | _ => False
theorem lstK_inv {k : List D → Prop} {o : Option MO} (q : lstK k o) : ∃ xs, o = some (.lst xs) ∧ k xs := by
  cases o with
  | none => exact q.elim
  | some o =>
    cases o with
    | lst xs => exact ⟨xs, rfl, q⟩
    | dic _ => exact q.elim
    | ins _ _ => exact q.elim
    | fdic _ _ => exact q.elim
def appendD : M1 := fun x ds h Q => match x, ds with
  | .ref a, [d] => lstK (fun xs => xs.length < sizeLine ∧ Q .none (up h a (.lst (xs ++ [d])))) (h a)
  | _, _ => False
theorem xm_append : MtR X "list.append" (lowM X.kw appendD) := mtR_of fun x vs H QV ⟨d, ds, h, Q, rx, rv, hH, hr, hc⟩ => by
  unfold appendD at hr
  split at hr
  · rename_i a e
    obtain ⟨xs, eh, hz, q⟩ := lstK_inv hr
    cases (show x = _ from rx)
    obtain ⟨v, rfl, r1⟩ := rep1 rv
    obtain ⟨us, eH, ru⟩ := hH a _ eh
    exact ⟨_, mt_append, a, us, v, rfl, rfl, eH, by rw [← ru.length]; exact hz, hc.write hH eh (.of (P2.append ru.pair (.cons r1 .nil))) (d := .none) rfl q⟩
  · exact hr.elim
def popD : M1 := fun x ds h Q => match x, ds with
  | .ref a, [] => lstK (fun xs => ∃ y, xs.getLast? = some y ∧ Q y (up h a (.lst xs.dropLast))) (h a)
  | .ref a, [.int i] => lstK (fun xs => ∃ k y, ixN xs.length i = some k ∧ xs[k]? = some y ∧ (-(2 ^ 63) ≤ i ∧ i < 2 ^ 63) ∧ Q y (up h a (.lst (xs.eraseIdx k)))) (h a)
  | _, _ => False
theorem xm_pop : MtR X "list.pop" (lowM X.kw popD) := mtR_of fun x vs H QV ⟨d, ds, h, Q, rx, rv, hH, hr, hc⟩ => by
  unfold popD at hr
  split at hr
  · rename_i a
    obtain ⟨xs, eh, y, ey, q⟩ := lstK_inv hr
    cases (show x = _ from rx)
    cases (show vs = [] from rv)
    obtain ⟨us, eH, ru⟩ := hH a _ eh
    rw [List.getLast?_eq_getElem?] at ey
    obtain ⟨w, ew, rw'⟩ := P2.get ru.pair ey
    rw [ru.length] at ew
    exact ⟨_, mt_pop, a, us, w, rfl, rfl, eH, ew, hc.write hH eh (.of (P2.dropLast ru.pair)) rw' q⟩
  · rename_i a i
    obtain ⟨xs, eh, k, y, ek, ey, hb, q⟩ := lstK_inv hr
    cases (show x = _ from rx)
    obtain ⟨v, rfl, r1⟩ := rep1 rv
    cases (show v = _ from r1)
    obtain ⟨us, eH, ru⟩ := hH a _ eh
    obtain ⟨w, ew, rw'⟩ := P2.get ru.pair ey
    exact ⟨_, mt_popAt, a, us, i, k, w, rfl, rfl, eH, hb.1, hb.2, by rw [← ru.length]; exact (ixN_seq ek).1, ew, hc.write hH eh (.of (P2.eraseIdx k ru.pair)) rw' q⟩
  · exact hr.elim
def extendD : M1 := fun x ds h Q => match x, ds with
  | .ref a, [.ref b] => lstK (fun xs => lstK (fun ys => xs.length + ys.length ≤ sizeLine ∧ Q .none (up h a (.lst (xs ++ ys)))) (h b)) (h a)
  | _, _ => False
theorem xm_extend : MtR X "list.extend" (lowM X.kw extendD) := mtR_of fun x vs H QV ⟨d, ds, h, Q, rx, rv, hH, hr, hc⟩ => by
  unfold extendD at hr
  split at hr
  · rename_i a b
    obtain ⟨xs, eh, hr⟩ := lstK_inv hr
    obtain ⟨ys, eh2, hz, q⟩ := lstK_inv hr
    cases (show x = _ from rx)
    obtain ⟨v, rfl, r1⟩ := rep1 rv
    cases (show v = _ from r1)
    obtain ⟨us, eH, ru⟩ := hH a _ eh
    obtain ⟨ws, eH2, ru2⟩ := hH b _ eh2
    exact ⟨_, mt_extend, a, b, us, ws, rfl, rfl, eH, eH2, by rw [← ru.length, ← ru2.length]; exact hz, hc.write hH eh (.of (P2.append ru.pair ru2.pair)) (d := .none) rfl q⟩
  · exact hr.elim
/-! texts -/
theorem len_joinL (S : List Nat) : ∀ ps : List (List Nat), (TL.joinL S ps).length ≤ (ps.map (·.length)).sum + ps.length * S.length
  | [] => by simp [TL.joinL]
  | [p] => by simp [TL.joinL]
  | p :: q :: r => by
    have ih := len_joinL S (q :: r)
    show (p ++ (S ++ TL.joinL S (q :: r))).length ≤ _
    rw [List.length_append, List.length_append, List.map_cons, List.sum_cons]
    have e : (p :: q :: r).length * S.length = (q :: r).length * S.length + S.length := by rw [List.length_cons, Nat.add_one_mul]
    omega
theorem mem_joinL {c : Nat} (S : List Nat) : ∀ ps : List (List Nat), c ∈ TL.joinL S ps → c ∈ S ∨ ∃ p ∈ ps, c ∈ p
  | [], h => by simp [TL.joinL] at h
  | [p], h => .inr ⟨p, by simp, h⟩
  | p :: q :: r, h => by
    have h' : c ∈ p ++ (S ++ TL.joinL S (q :: r)) := h
    rcases List.mem_append.mp h' with h | h
    · exact .inr ⟨p, by simp, h⟩
    · rcases List.mem_append.mp h with h | h
      · exact .inl h
      · rcases mem_joinL S (q :: r) h with h | ⟨p', a, b⟩
        · exact .inl h
        · exact .inr ⟨p', by simp at a ⊢; right; exact a, b⟩
theorem strOk_iff {x : Str} : PyData.strOk x = true ↔ ∀ c ∈ x.cps.toList, c < 0x110000 := by
  unfold PyData.strOk
  rw [← Array.all_toList, List.all_eq_true]
  simp
theorem join_tl (a : Str) (ys : List Str) : (Txt.join a ys).cps.toList = TL.joinL a.cps.toList (ys.map fun y => y.cps.toList) := by
  rw [TL.join_eq]; exact TL.tl_join a ys
theorem okS.join {a : Str} {ys : List Str} (oa : okS a) (oy : ∀ z ∈ ys, okS z) (h : (ys.map (·.length)).sum + ys.length * a.length ≤ sizeLine) : okS (Txt.join a ys) := by
  refine ⟨?_, ?_⟩
  · have := len_joinL a.cps.toList (ys.map fun y => y.cps.toList)
    rw [← join_tl, List.map_map, List.length_map] at this
    have e : ys.map ((fun x => x.length) ∘ fun y : Str => y.cps.toList) = ys.map (·.length) := List.map_congr_left fun z _ => by show z.cps.toList.length = z.cps.size; exact Array.length_toList
    rw [e] at this
    have l : (Txt.join a ys).length = (Txt.join a ys).cps.toList.length := (Array.length_toList).symm
    have l2 : a.cps.toList.length = a.length := Array.length_toList
    rw [l]; rw [l2] at this; omega
  · rw [strOk_iff, join_tl]
    intro c hc
    rcases mem_joinL _ _ hc with h | ⟨p, hp, h⟩
    · exact strOk_iff.mp oa.2 c h
    · obtain ⟨z, hz, rfl⟩ := List.mem_map.mp hp
      exact strOk_iff.mp (oy z hz).2 c h
def joinK (a : Str) (h : MH) (Q : KD) (ds : List D) : Prop := ∃ ys, strsOf ds = some ys ∧ (ys.map (·.length)).sum + ys.length * a.length ≤ sizeLine ∧ Q (.str (Txt.join a ys)) h
def joinD : R1 := fun x y h Q => match x with
  | .str a => seqK (joinK a h Q) (seqOf h y)
  | _ => False
def dJoin (to te : E1) : E1 := fun σ h Q => to σ h fun x h1 => (∃ z, x = .str z) ∧ te σ h1 fun y h2 => joinD x y h2 Q
theorem de_join {o e : Expr} {to te : E1} {apos pos : Pos} (ho : DE X o to) (he : DE X e te) (hs : starEach [e] X.env = [(false, eval e X.env)] := by rfl) (hbase : attributeBase o "join" X.env (eval o X.env) = eval o X.env := by rfl) (hline : (apos.endLine == pos.line) = true := by rfl) :
    DE X (.Call (.Attribute o "join" apos) [e] [] pos) (dJoin to te) :=
  weakE (pe_join ho he hs hbase hline) fun σV H QV ⟨σ, h, Q, hE, hH, ht, hc⟩ => by
    refine ⟨σ, h, _, hE, hH, ht, fun x h1 v H1 s1 hH1 r1 q => ?_⟩
    obtain ⟨⟨z, rfl⟩, q⟩ := q
    obtain ⟨rfl, oz⟩ := r1
    refine ⟨⟨z, rfl⟩, σ, h1, _, hE.mono (Stp.mo hH s1), hH1, q, fun y h2 u H2 s2 hH2 r2 q2 => ?_⟩
    have q2 : seqK (joinK z h2 Q) (seqOf h2 y) := q2
    cases e2 : seqOf h2 y with
    | none => rw [e2] at q2; exact q2.elim
    | some ds =>
      rw [e2] at q2
      obtain ⟨ys, e3, hz, q3⟩ := q2
      obtain ⟨a, vs, rfl, rv, hs⟩ := seq_rep hH2 r2 e2
      obtain ⟨rfl, oy⟩ := strsOf_rep rv e3
      exact ⟨z, a, ys, rfl, rfl, hs, hz, (hc.step (s1.trans s2)).str hH2 (oz.join oy hz) q3⟩
/-! ### calls of defs -/
abbrev P1 := List D → MH → KD → Prop
def lowP (K : KW) (sp : P1) : Sp := fun vs H QV _ => lowC K sp vs H QV
theorem de_call {k : Nat} {f : Addr} {fd : FuncData} {ps : List Str} {sp : P1} {x : Str} {e : Expr} {es : List Expr} {t : A1} {p pos : Pos} (F : FnG X.prog X.w X.K X.mg X.base k f fd ps (lowP X.kw sp)) (hr : RoomG k X.A) (hg : Gl X x) (hm : X.mg x = some (.ref f)) (hk : PySem.W.keepIn X.K (.ref f) = true) (hb : Binds X.K fd ps [])
    (ha : DA X (e :: es) t) (hdb : (x == ("__debug__" : Str)) = false := by decide) (he : starEach (e :: es) X.env = (false, eval e X.env) :: starEach es X.env := by rfl) (hpl : (backTo pos (starEach es X.env)).any (·.1) = false := by rfl) :
    DE X (.Call (.Name x p) (e :: es) [] pos) (dCall sp t) :=
  weakE (pe_callG F hr hg hm hk hb pass0 ha hdb he hpl) fun σV H QV ⟨σ, h, Q, hE, hH, ht, hc⟩ =>
    ⟨σ, h, _, hE, hH, ht, fun ds h1 vs H1 s1 hH1 r1 q => ⟨ds, h1, Q, r1, hH1, q, hc.step s1⟩⟩
theorem de_call0 {k : Nat} {f : Addr} {fd : FuncData} {ps : List Str} {sp : P1} {x : Str} {p pos : Pos} (F : FnG X.prog X.w X.K X.mg X.base k f fd ps (lowP X.kw sp)) (hr : RoomG k X.A) (hg : Gl X x) (hm : X.mg x = some (.ref f)) (hk : PySem.W.keepIn X.K (.ref f) = true) (hb : Binds X.K fd ps [])
    (hdb : (x == ("__debug__" : Str)) = false := by decide) : DE X (.Call (.Name x p) [] [] pos) (dCall sp dNil) :=
  weakE (pe_callG0 F hr hg hm hk hb pass0 hdb) fun σV H QV ⟨σ, h, Q, hE, hH, ht, hc⟩ => (show lowC X.kw sp [] H QV from ⟨[], h, Q, rfl, hH, ht, hc⟩)
end
def startD (n : Nat) (ds : List D) : Sl := ds.map some ++ List.replicate (n - ds.length) none
theorem nth_append_none : ∀ (a : Sl) (n : Nat) (i : Nat) {d : D}, nth (a ++ List.replicate n none) i = some d → nth a i = some d
  | [], 0, _, _, h => by cases h
  | [], n + 1, 0, _, h => by cases h
  | [], n + 1, i + 1, _, h => nth_append_none [] n i h
  | x :: r, n, 0, _, h => h
  | x :: r, n, i + 1, _, h => nth_append_none r n i h
theorem rep_start {K : KW} {H : Hp} {N : List Str} {ds : List D} {vs : List V} (r : RepVs K H ds vs) : RepE K H (startD N.length ds) (L2.start N vs) := by
  refine ⟨?_, fun i d e => ?_⟩
  · unfold startD L2.start
    rw [List.length_append, List.length_append, List.length_map, List.length_map, List.length_replicate, List.length_replicate, r.length]
  · have q := nth_append_none _ _ _ e
    have look : ∀ (ds : List D) (i : Nat) {d : D}, nth (ds.map some) i = some d → ds[i]? = some d := by
      intro ds
      induction ds with
      | nil => intro i d h; cases h
      | cons x r ih =>
        intro i d h
        cases i with
        | zero => exact h
        | succ n => rw [List.getElem?_cons_succ]; exact ih n h
    obtain ⟨v, ev, rv⟩ := P2.get r.pair (look ds i q)
    refine ⟨v, ?_, rv⟩
    unfold L2.start
    rw [List.getElem?_append_left (by rw [List.length_map]; exact (List.getElem?_eq_some_iff.mp ev).1), List.getElem?_map, ev]; rfl
/-- at less -/
def Lh (Q : KD) : KD := fun d h => ∃ h0, le h0 h ∧ Q d h0
def endN (Q : KD) : Nd := { nx := fun _ h => Lh Q .none h, rt := Lh Q }
theorem df_ok {P : Program} {w : World} {K : PySem.W.Frag} {mg : Str → Option Value} {base : Heap} {x qual : Str} {st : Stmt} {f : Addr} {fd : FuncData} {N ps : List Str} {k : Nat} {sp : P1} (F : Fun K x qual st f fd) (S : FnScope N ps (defScope st)) (len : ∀ ds h Q, sp ds h Q → ds.length = ps.length)
    (hbody : ∀ (cdv : Value) (A : Around) (outer : List Env) (s : Shared) (H : Hp) (E : XK), RoomG k (A.deeper (envOfC qual (defScope st) s.heap.objs.size f cdv)) →
      ∃ t, DSs (cxOf CX0 P w K mg base N qual (defScope st) f cdv A outer s H E).nox (defBody st) t ∧ ∀ ds h Q, sp ds h Q → t (endN Q) (startD N.length ds) h) : FnG P w K mg base (k + 1) f fd ps (lowP ⟨K, w, mg⟩ sp) := by
  refine fng_of F S (fun vs H QV E ⟨ds, h, Q, rv, hH, hs, hc⟩ => by rw [← rv.length]; exact len _ _ _ hs) fun cdv A outer s H vs QV E hr hq => ?_
  obtain ⟨t, ht, hb⟩ := hbody cdv A outer s H E hr
  obtain ⟨ds, h, Q, rv, hH, hs, hc⟩ := hq
  refine ⟨_, ht.nox, endN Q, startD N.length ds, h, rep_start rv, hH, hb ds h Q hs, ?_, ?_, ?_, ?_⟩
  · rintro σ' h' σV' H' s' e' r' ⟨h0, w0, q⟩
    exact hc .none h0 .non H' (s'.low w0) (r'.low w0) rfl q
  · rintro d h' v H' s' r' rv' ⟨h0, w0, q⟩
    exact hc d h0 v H' (s'.low w0) (r'.low w0) rv' q
  · intro _ _ _ _ _ _ _ z; exact z.elim
  · intro _ _ _ _ _ _ _ z; exact z.elim
end DL
namespace DL
open PySem PySem.Spec PyProof.Rows L2
section
variable {P : Program} {w : World} {K : PySem.W.Frag} {mg : Str → Option Value} {base : Heap}
/-- a def of the top, as it stands -/
structure TopF (K : PySem.W.Frag) (mg : Str → Option Value) (x qual : Str) (st : Stmt) (ps : List Str) : Prop where
  ex : ∃ f fd, Fun K x qual st f fd ∧ mg x = some (.ref f) ∧ L2.Binds K fd ps []
/-- a def that keeps its promise, ready for calls -/
structure Good (P : Program) (w : World) (K : PySem.W.Frag) (mg : Str → Option Value) (base : Heap) (k : Nat) (x : Str) (ps : List Str) (sp : P1) : Prop where
  ex : ∃ f fd, FnG P w K mg base k f fd ps (lowP ⟨K, w, mg⟩ sp) ∧ mg x = some (.ref f) ∧ PySem.W.keepIn K (.ref f) = true ∧ L2.Binds K fd ps []
theorem good_ok {x qual : Str} {st : Stmt} {N ps : List Str} {k : Nat} {sp : P1} {t : S1} (T : TopF K mg x qual st ps) (S : FnScope N ps (defScope st)) (len : ∀ ds h Q, sp ds h Q → ds.length = ps.length)
    (body : ∀ (f : Addr) (cdv : Value) (A : Around) (outer : List Env) (s : Shared) (H : Hp) (E : XK), RoomG k (A.deeper (envOfC qual (defScope st) s.heap.objs.size f cdv)) →
      DSs (cxOf CX0 P w K mg base N qual (defScope st) f cdv A outer s H E).nox (defBody st) t) (sat : ∀ ds h Q, sp ds h Q → t (endN Q) (startD N.length ds) h) : Good P w K mg base (k + 1) x ps sp := by
  obtain ⟨f, fd, F, m, b⟩ := T.ex
  exact ⟨f, fd, df_ok F S len fun cdv A outer s H E hr => ⟨t, body f cdv A outer s H E hr, sat⟩, m, F.kp, b⟩
theorem Good.mono {x : Str} {ps : List Str} {sp : P1} {j k : Nat} (G : Good P w K mg base j x ps sp) (h : j ≤ k) : Good P w K mg base k x ps sp := by
  obtain ⟨f, fd, F, m, kp, b⟩ := G.ex
  exact ⟨f, fd, F.mono h, m, kp, b⟩
/-- no promise -/
theorem Good.no {x qual : Str} {st : Stmt} {ps : List Str} {k : Nat} (T : TopF K mg x qual st ps) : Good P w K mg base k x ps fun _ _ _ => False := by
  obtain ⟨f, fd, F, m, b⟩ := T.ex
  exact ⟨f, fd, ⟨fun _ _ _ _ ⟨_, _, _, _, _, z, _⟩ => z.elim, fun _ _ _ _ _ _ _ _ _ _ _ _ _ ⟨_, _, _, _, _, z, _⟩ => z.elim⟩, m, F.kp, b⟩
theorem Good.imp {x : Str} {ps : List Str} {sp sp' : P1} {k : Nat} (G : Good P w K mg base k x ps sp) (h : ∀ ds h Q, sp' ds h Q → sp ds h Q) : Good P w K mg base k x ps sp' := by
  obtain ⟨f, fd, F, m, kp, b⟩ := G.ex
  exact ⟨f, fd, F.imp fun _ _ _ _ ⟨ds, h', Q, r1, r2, z, c⟩ => ⟨ds, h', Q, r1, r2, h _ _ _ z, c⟩, m, kp, b⟩
end
section
variable {X : Cx}
theorem de_callG {k j : Nat} {ps : List Str} {sp : P1} {x : Str} {e : Expr} {es : List Expr} {t : A1} {p pos : Pos} (G : Good X.prog X.w X.K X.mg X.base j x ps sp) (hr : RoomG k X.A) (hj : j ≤ k) (hg : Gl X x)
    (ha : DA X (e :: es) t) (hdb : (x == ("__debug__" : Str)) = false := by decide) (he : starEach (e :: es) X.env = (false, eval e X.env) :: starEach es X.env := by rfl) (hpl : (backTo pos (starEach es X.env)).any (·.1) = false := by rfl) :
    DE X (.Call (.Name x p) (e :: es) [] pos) (dCall sp t) := by
  obtain ⟨f, fd, F, m, kp, b⟩ := G.ex
  exact de_call F (hr.mono hj) hg m kp b ha hdb he hpl
theorem de_callG0 {k j : Nat} {ps : List Str} {sp : P1} {x : Str} {p pos : Pos} (G : Good X.prog X.w X.K X.mg X.base j x ps sp) (hr : RoomG k X.A) (hj : j ≤ k) (hg : Gl X x) (hdb : (x == ("__debug__" : Str)) = false := by decide) :
    DE X (.Call (.Name x p) [] [] pos) (dCall sp dNil) := by
  obtain ⟨f, fd, F, m, kp, b⟩ := G.ex
  exact de_call0 F (hr.mono hj) hg m kp b hdb
end
/-- from what the top has written -/
theorem top_mk {K : PySem.W.Frag} {h : Heap} {mg : Str → Option Value} (X : K.In h) (G : h.Ns mainGlobals mg) {x qual : Str} {st : Stmt} {ps : List Str} {f : Addr} {oc : Value} {od an : Option Addr} {osl : Array (Option Value)} {kV doc pm cdv ct : Value}
    (a : PySem.W.nsIn K mainGlobals x = some (some (.ref f))) (l : K.lookup f = some ⟨oc, od, .func (PySem.W.fnOf x qual (defArgs st) (defBody st) (defScope st) .none kV doc pm an cdv ct), osl⟩)
    (c : PySem.W.codeIn K cdv qual = true) (k : PySem.W.keepIn K (.ref f) = true)
    (b : ∀ (kV doc pm : Value) (an : Option Addr) (cdv ct : Value) (us : List Value), us.length = ps.length → bindArgs (PySem.W.fnOf x qual (defArgs st) (defBody st) (defScope st) .none kV doc pm an cdv ct) ⟨us, []⟩ = pure (ps.zip us)) : TopF K mg x qual st ps :=
  have F := fun_mk (st := st) l c k
  ⟨f, _, F, PySem.W.mg_of X G a, F.binds b⟩
/-- the law's own end -/
def spLaw : P1 := fun ds h Q => ∃ ns : List Int, ds = [.rol (ns.map D.int)] ∧ ns.length ≤ 63 ∧ ∀ h', Q (.bool true) h'
theorem rol_of {K : KW} {H : Hp} (o : Only H) {a : Addr} {xs : List V} (s : SqL K.F H a xs) : ROL K H a xs := by
  rcases s with (s | ⟨ob, s⟩) | s
  · rcases o a with n | ⟨_, _, n⟩ <;> (rw [n] at s; cases s)
  · exact .inl ⟨ob, s⟩
  · exact .inr s
theorem reps_ints {K : KW} {H : Hp} : ∀ ns : List Int, RepVs K H (ns.map D.int) (ns.map V.int)
  | [] => rfl
  | n :: r => ⟨_, _, rfl, rfl, reps_ints r⟩
/-- the law's promise, whatever the world -/
def lowS0 (K : PySem.W.Frag) : Sp := fun vs H Q E => ∀ (w : World) (mg : Str → Option Value), lowP ⟨K, w, mg⟩ spLaw vs H Q E
theorem law_start0 {K : KW} {H : Hp} {a : Addr} {ns : List Int} (hl : ns.length ≤ 63) (o : Only H) (s : SqL K.F H a (ns.map V.int)) : lowP K spLaw [.ref a] H (fun v _ => v = .bl true) fun _ _ _ => False := by
  refine ⟨[.rol (ns.map D.int)], fun _ => none, fun d _ => d = .bool true, ⟨_, _, rfl, ⟨a, _, rfl, rol_of o s, reps_ints ns⟩, rfl⟩, (fun a o e => nomatch e), ⟨ns, rfl, hl, fun _ => rfl⟩, fun d h' v H' _ _ r q => ?_⟩
  subst q
  exact r
theorem law_start {K : PySem.W.Frag} {H : Hp} {a : Addr} {ns : List Int} (hl : ns.length ≤ 63) (o : Only H) (s : SqL K H a (ns.map V.int)) : lowS0 K [.ref a] H (fun v _ => v = .bl true) fun _ _ _ => False := fun w mg => law_start0 (K := ⟨K, w, mg⟩) hl o s
theorem good_end {P : Program} {w : World} {K : PySem.W.Frag} {mg : Str → Option Value} {base : Heap} {k : Nat} {x : Str} {ps : List Str} {sp : P1} {st : Stmt} {qual : Str} {f : Addr} {oc : Value} {od an : Option Addr} {osl : Array (Option Value)} {kV doc pm cdv ct : Value} (G : Good P w K mg base k x ps sp) (m : mg x = some (.ref f)) :
    ∃ fd, FnG P w K mg base k f fd ps (lowP ⟨K, w, mg⟩ sp) ∧ L2.Binds K fd ps [] := by
  obtain ⟨g, fd, F, m', kp, b⟩ := G.ex
  rw [m] at m'
  cases m'
  exact ⟨fd, F, b⟩
end DL
namespace DL
open PySem PySem.Spec PyProof.Rows L2
/-! ### dict displays -/
section
variable {K : KW} {h : MH} {H : Hp} {l : Addr}
/-- what stood hidden is shown -/
theorem rep_layO (r : RepH K h H) (n : h l = none) {o0 o : HO} (e0 : H l = some o0) (hd : DL.hid o0 = false) {u : MO} (x : RepO K (upd H l o) l u) : RepH K (up h l u) (upd H l o) := fun a w e => by
  have m : Mo K H (upd H l o) := Mo.upd e0 hd
  by_cases q : a = l
  · subst q
    rw [up_same] at e; cases e
    exact x
  · rw [up_ne q] at e
    exact (r a w e).mono m fun x f => by rw [upd_ne q]; exact f
end
theorem dic_K {K : KW} {H : Hp} {a : Addr} {kvs : Kvs} {kv : List (L2.Key × V)} (e : H a = some (.dK kv)) (r : RepKs K H kvs kv) : RepO K H a (.dic kvs) := Or.inl ⟨kv, e, r⟩
def dDic0 : E1 := fun _ h Q => ∀ p, h p = none → Q (.ref p) (up h p (.dic []))
def dPairs : List (E1 × E1) → Sl → MH → (Kvs → MH → Prop) → Prop
  | [], _, h, Q => Q [] h
  | (tk, tv) :: r, σ, h, Q => tk σ h fun x h1 => tv σ h1 fun y h2 => dPairs r σ h2 fun ps h3 => Q ((x, y) :: ps) h3
def dmerge (acc more : Kvs) : Kvs := more.foldl (fun a p => dset a p.1 p.2) acc
def dDisp (trs : List (E1 × E1)) : E1 := fun σ h Q => dPairs trs σ h fun ps h1 => ps.all (fun p => (scaK p.1).isSome) = true ∧ ps.length ≤ 15 ∧ ∀ p, h1 p = none → Q (.ref p) (up h1 p (.dic (dmerge [] ps)))
section
variable {X : Cx}
theorem de_dic0 {pos : Pos} : DE X (.Dict [] [] pos) dDic0 := weakE pe_dnewK fun σV H QV ⟨σ, h, Q, hE, hH, ht, hc⟩ p np =>
  hc (.ref p) _ _ _ (Stp.new np) (hH.newO np (dic_K upd_same .nil)) rfl (ht p (hH.nofresh np))
theorem merge_rep {K : KW} {H : Hp} : ∀ {more acc : Kvs} {kv : List (L2.Key × V)} {mv : List (L2.Key × V)}, RepKs K H acc kv → RepKs K H more mv → RepKs K H (dmerge acc more) (mergeK kv mv)
  | _, _, _, _, a, .nil => a
  | _, acc, kv, _, a, .cons (a := p) (b := x) (l₁ := ps) (l₂ := xs) q t => by
    show RepKs K H (dmerge (dset acc p.1 p.2) ps) (mergeK (putK kv x.1 x.2) xs)
    exact merge_rep (dset_K a q.1 q.2.1 q.2.2) t
theorem pairs_low {trs : List (E1 × E1)} : ∀ {σ : Sl} {σV : L2.St} {h : MH} {H : Hp} {Q : Kvs → MH → Prop} {QV : List (V × V) → Hp → Prop}, RepE X.kw H σ σV → RepH X.kw h H → dPairs trs σ h Q →
    (∀ ps h' vs H', Stp h H h' H' → RepH X.kw h' H' → Paired (fun (p : D × D) (q : V × V) => RepV X.kw H' p.1 q.1 ∧ RepV X.kw H' p.2 q.2) ps vs → Q ps h' → QV vs H') → tPairs (trs.map fun t => (lowE X.kw t.1, lowE X.kw t.2)) σV H QV := by
  induction trs with
  | nil => exact fun hE hH ht hc => hc [] _ [] _ Stp.refl hH .nil ht
  | cons t r ih =>
    intro σ σV h H Q QV hE hH ht hc
    refine ⟨σ, h, _, hE, hH, ht, fun x h1 v H1 s1 hH1 r1 q1 => ⟨σ, h1, _, hE.mono (Stp.mo hH s1), hH1, q1, fun y h2 u H2 s2 hH2 r2 q2 => ?_⟩⟩
    refine ih ((hE.mono (Stp.mo hH s1)).mono (Stp.mo hH1 s2)) hH2 q2 fun ps h3 vs H3 s3 hH3 rp q3 => ?_
    exact hc _ h3 _ H3 (s1.trans (s2.trans s3)) hH3 (.cons ⟨RepV.mono ((Stp.mo hH1 s2).trans (Stp.mo hH2 s3)) _ r1, RepV.mono (Stp.mo hH2 s3) _ r2⟩ rp) q3
theorem keys_low {K : KW} {H : Hp} : ∀ {ps : Kvs} {vs : List (V × V)}, Paired (fun (p : D × D) (q : V × V) => RepV K H p.1 q.1 ∧ RepV K H p.2 q.2) ps vs → ps.all (fun p => (scaK p.1).isSome) = true → ∃ kv : List (L2.Key × V), vs = kv.map (fun x => (kV x.1, x.2)) ∧ RepKs K H ps kv
  | _, _, .nil, _ => ⟨[], rfl, .nil⟩
  | _, _, @Paired.cons _ _ _ p q _ _ r t, a => by
    rw [List.all_cons, Bool.and_eq_true] at a
    obtain ⟨kv, e, rk⟩ := keys_low t a.2
    obtain ⟨k, ek⟩ := Option.isSome_iff_exists.mp a.1
    have ev := sca_rep r.1 ek
    refine ⟨(k, q.2) :: kv, ?_, .cons ⟨ek, by rw [← ev]; exact r.1, r.2⟩ rk⟩
    rw [e, List.map_cons, ← ev]
theorem de_disp {pos : Pos} {keys : List (Option Expr)} {values : List Expr} {trs : List (E1 × E1)} (p : PPs X pos keys values (trs.map fun t => (lowE X.kw t.1, lowE X.kw t.2))) (hall : keys.all (·.isSome) = true) (hl : keys.length = values.length) (h0 : keys ≠ []) (h15 : keys.length ≤ 15) :
    DE X (.Dict keys values pos) (dDisp trs) := weakE (pe_disp p hall hl h0 h15) fun σV H QV ⟨σ, h, Q, hE, hH, ht, hc⟩ a na => by
  have m : Mo X.kw H (upd H a (.dK [])) := Stp.mo hH (Stp.hide na)
  refine pairs_low (hE.mono m) (hH.hide na) ht fun ps h1 vs H1 s1 hH1 rp ⟨al, l15, q⟩ => ?_
  obtain ⟨n1, e1⟩ := s1 a (.dK []) (hH.nofresh na) upd_same
  obtain ⟨kv, ev, rk⟩ := keys_low rp al
  refine ⟨e1, kv, ev, by rw [← rk.length]; exact l15, ?_⟩
  have m1 : Mo X.kw H1 (upd H1 a (.dK (mergeK [] kv))) := Mo.upd e1 rfl
  have hide : Stp h H h (upd H a (.dK [])) := Stp.hide na
  refine hc (.ref a) _ _ _ ?_ (rep_layO hH1 n1 e1 rfl (dic_K upd_same ((merge_rep .nil rk).mono m1))) rfl (q a n1)
  intro b o eb fb
  have nb : b ≠ a := fun z => by rw [z, na] at fb; cases fb
  obtain ⟨x1, x2⟩ := (hide.trans s1) b o eb fb
  exact ⟨by rw [up_ne nb]; exact x1, by rw [upd_ne nb]; exact x2⟩
/-! ### a < b < c -/
theorem low_chain {r r' : R1} {ta tb tc : E1} {σV : L2.St} {H : Hp} {QV : VK} (h : lowE X.kw (dChain r r' ta tb tc) σV H QV) : tChain (lowR X.kw r) (lowR X.kw r') (lowE X.kw ta) (lowE X.kw tb) (lowE X.kw tc) σV H QV := by
  obtain ⟨σ, h, Q, hE, hH, ht, hc⟩ := h
  refine ⟨σ, h, _, hE, hH, ht, fun x h1 v1 H1 s1 hH1 r1 q1 => ⟨σ, h1, _, hE.mono (Stp.mo hH s1), hH1, q1, fun y h2 v2 H2 s2 hH2 r2 q2 => ?_⟩⟩
  have m1 := Stp.mo hH s1
  have m2 := Stp.mo hH1 s2
  refine ⟨x, y, h2, _, RepV.mono m2 _ r1, r2, hH2, q2, fun d h3 v3 H3 s3 hH3 r3 q3 => ?_⟩
  have m3 := Stp.mo hH2 s3
  cases d with
  | bool k =>
    refine ⟨k, r3, ?_⟩
    have q3 : if k = true then tc σ h3 fun z h4 => r' y z h4 Q else Q (.bool false) h3 := q3
    cases k with
    | false =>
      rw [if_neg Bool.false_ne_true] at q3 ⊢
      exact hc (.bool false) h3 _ H3 (s1.trans (s2.trans s3)) hH3 rfl q3
    | true =>
      rw [if_pos rfl] at q3 ⊢
      refine ⟨σ, h3, _, ((hE.mono m1).mono m2).mono m3, hH3, q3, fun z h4 v4 H4 s4 hH4 r4 q4 => ?_⟩
      exact ⟨y, z, h4, Q, RepV.mono (m3.trans (Stp.mo hH3 s4)) _ r2, r4, hH4, q4, hc.step (s1.trans (s2.trans (s3.trans s4)))⟩
  | _ => exact q3.elim
theorem de_chain {op op' : CmpOp} {r r' : R1} {a b c : Expr} {ta tb tc : E1} {pos : Pos} (ho : OpR X (compareOp op) (lowR X.kw r)) (ho' : OpR X (compareOp op') (lowR X.kw r')) (ha : DE X a ta) (hb : DE X b tb) (hcc : DE X c tc)
    (hm : lastMarks [op, op'] [b, c] = false := by with_unfolding_all rfl) : DE X (.Compare a [op, op'] [b, c] pos) (dChain r r' ta tb tc) := weakE (pe_chain ho ho' ha hb hcc hm) fun _ _ _ h => low_chain h
theorem dt_chain {op op' : CmpOp} {r r' : R1} {a b c : Expr} {ta tb tc : E1} {pos : Pos} (ho : OpR X (compareOp op) (lowR X.kw r)) (ho' : OpR X (compareOp op') (lowR X.kw r')) (ha : DE X a ta) (hb : DE X b tb) (hcc : DE X c tc)
    (hm : lastMarks [op, op'] [b, c] = false := by with_unfolding_all rfl) : DT X (.Compare a [op, op'] [b, c] pos) (dTest (dChain r r' ta tb tc)) :=
  weakT (pt_chain ho ho' ha hb hcc hm) fun σV H QV ⟨σ, h, Q, hE, hH, ht, hc⟩ => low_chain ⟨σ, h, asB Q, hE, hH, ht, asB_cl hc⟩
/-! ### i.bit_length() -/
def bitsD (x : D) (h : MH) (Q : KD) : Prop := match x with
  | .int i => Q (.int (Builtin.Int.intBits i : Nat)) h
  | _ => False
theorem de_bits {o : Expr} {to : E1} {apos pos : Pos} (ho : DE X o to) (hbase : attributeBase o "bit_length" X.env (eval o X.env) = eval o X.env := by rfl) (hline : (apos.endLine == pos.line) = true := by rfl) : DE X (.Call (.Attribute o "bit_length" apos) [] [] pos) (dUn bitsD to) :=
  weakE (pe_bits ho hbase hline) fun σV H QV ⟨σ, h, Q, hE, hH, ht, hc⟩ => ⟨σ, h, _, hE, hH, ht, fun d h' v H' s' r' rv q => by
    cases d with
    | int i => exact ⟨i, rv, (hc.step s').int r' q⟩
    | _ => exact q.elim⟩
/-! ### range with a step -/
def rgC (lo c : Int) (n : Nat) : List D := (List.range n).map fun i => .int (lo + (i : Nat) * c)
theorem src_rngC {K : KW} {H1 : Hp} {h1 : MH} {lo c : Int} {n : Nat} : SrcOk K (Itc lo c n) (rgC lo c n) (fun _ => True) h1 H1 := by
  have len : (rgC lo c n).length = n := by unfold rgC; rw [List.length_map, List.length_range]
  refine ⟨fun h H i _ _ _ hi => ?_, fun h H i v H' _ rh _ hi y => ?_, fun h H _ _ _ => ?_⟩
  · show i < n
    rw [← len]; exact hi
  · obtain ⟨rfl, rfl⟩ := y
    rw [len] at hi
    refine ⟨.int (lo + (i : Nat) * c), ?_, rfl, Stp.refl, rh⟩
    unfold rgC
    rw [List.getElem?_map, List.getElem?_range hi]; rfl
  · show n ≤ (rgC lo c n).length
    rw [len]; exact Nat.le_refl _
def rg3 (ds : List D) (h : MH) (Q : List D → (MH → Prop) → MH → Prop) : Prop := match ds with
  | [.int i, .int j, .int c] => ∃ n, RgC i j c n ∧ Q (rgC i c n) (fun _ => True) h
  | _ => False
def iRg3 (ta : A1) : I1 := fun σ h Q => ta σ h fun ds h1 => rg3 ds h1 Q
theorem rg3_inv {ds : List D} {h : MH} {Q : List D → (MH → Prop) → MH → Prop} (q : rg3 ds h Q) : ∃ i j c n, ds = [.int i, .int j, .int c] ∧ RgC i j c n ∧ Q (rgC i c n) (fun _ => True) h := by
  unfold rg3 at q
  split at q
  · obtain ⟨n, a, b⟩ := q; exact ⟨_, _, _, n, rfl, a, b⟩
  · exact q.elim
theorem di_range3 {tg a b c : Expr} {ta : A1} {p pos : Pos} (hg : Gl X "range") (hm : X.mg "range" = none) (ha : DA X [a, b, c] ta) (hs : starEach [a, b, c] X.env = (false, eval a X.env) :: starEach [b, c] X.env := by rfl) (hpl : (backTo pos (starEach [b, c] X.env)).any (·.1) = false := by rfl) :
    DI X tg (.Call (.Name "range" p) [a, b, c] [] pos) (iRg3 ta) :=
  weakI (pi_range3 hg hm ha hs hpl) fun σV H R ⟨σ, h, Q, hE, hH, ht, hc⟩ => ⟨σ, h, _, hE, hH, ht, fun ds h' vs H' s' r' rv q => by
    obtain ⟨i, j, c, n, rfl, b, q⟩ := rg3_inv q
    obtain ⟨v, r, rfl, r1, v2, r2, rfl, r3, v3, r4, rfl, r5, r6⟩ := rv
    cases (show v = _ from r1)
    cases (show v2 = _ from r3)
    cases (show v3 = _ from r5)
    cases (show r4 = [] from r6)
    exact ⟨i, j, c, n, rfl, b, hc _ _ _ _ _ s' r' src_rngC q⟩⟩
end
end DL
namespace DL
open PySem PySem.Spec PyProof.Rows L2
/-! ### enumerate(tuple) -/
open Sem (wp) in
open AutoSeq1 (wpAny_loadPart') in
theorem meets_enum_tup (l : Addr) (items : Array Value) (n : Nat) (dct : Option Addr) (sl : Array (Option Value)) :
    Meets (Builtin.«enumerate.__new__» ⟨[.type "enumerate", .ref l], []⟩) (fun _ R s => s.heap.get? l = some ⟨.type "tuple", dct, .seq items n, sl⟩ ∧
      R (.ok (.ret (.ref (s.heap.push { cls := .type "tuple_iterator", data := .fields #[.ref l, .int 0 0] }).objs.size)))
        { s with heap := (s.heap.push { cls := .type "tuple_iterator", data := .fields #[.ref l, .int 0 0] }).push { cls := .type "enumerate", data := .fields #[.none, .bool false, .ref s.heap.objs.size, rawInt 0, .none, .none] } }) :=
  .of_wp fun prog w A R s z => by
    obtain ⟨hp, g, d, tk, os⟩ := s; obtain ⟨hl, h⟩ := z
    have sub := sub_enumerate
    have T : Heap.IsTuple (Shared.heap ⟨hp, g, d, tk, os⟩) l items := ⟨_, hl, rfl, n, rfl⟩
    wp_walk using wpAny_loadPart' hl
    refine wpAny_stack_any fun st => wpAny_pure ?_; split
    · rename_i c _ _ _ _ _
      cases (c == Value.type "enumerate") <;> (wp_walk using wpAny_loadPart' hl, wpAny_pyIter_tuple T; exact ⟨_, rfl, h⟩)
    · (wp_walk using wpAny_loadPart' hl, wpAny_pyIter_tuple T); exact ⟨_, rfl, h⟩
theorem call_enum_tup {prog : Program} {w : World} {A : Around} {E : Value → Shared → Prop} {s : Shared} {l : Addr} {items : Array Value} {Q : Value → Shared → Prop} (T : s.heap.IsTuple l items)
    (h : ∀ h', IsEnum h' (s.heap.objs.size + 1) s.heap.objs.size 0 .none → h'.IsTupleIter s.heap.objs.size l 0 → (∀ b o, s.heap.get? b = some o → h'.get? b = some o) → Q (.ref (s.heap.objs.size + 1)) { s with heap := h' }) :
    wpAny (model prog w) A (call (.type "enumerate") [.ref l]) Q E s := by
  obtain ⟨⟨c, dct, dt, sl⟩, hl, hc, n, hd⟩ := T
  cases (show c = .type "tuple" from hc)
  cases (show dt = .seq items n from hd)
  refine callType_new F.called_enumerate (by decide) (F.typeCall_enumerate_1 _) (F.newCall_enumerate_1 _) (fun obj => F.args_object_init_2 obj _) F.entry_enumerate_new (meets_enum_tup l items n dct sl) ⟨hl, ?_⟩
  have hz : (s.heap.push { cls := .type "tuple_iterator", data := .fields #[.ref l, .int 0 0] }).objs.size = s.heap.objs.size + 1 := Heap.size_push ..
  show _ ∧ _
  rw [hz]
  have he := Heap.get?_push_size (s.heap.push { cls := .type "tuple_iterator", data := .fields #[.ref l, .int 0 0] }) (o := { cls := .type "enumerate", data := .fields #[.none, .bool false, .ref s.heap.objs.size, rawInt 0, .none, .none] }) rfl
  rw [hz] at he
  exact ⟨⟨_, he, rfl⟩, h _ he ⟨_, Heap.get?_push_of_some _ (Heap.get?_push_size _ rfl), rfl, rfl⟩ fun b o x => Heap.get?_push_of_some _ (Heap.get?_push_of_some _ x)⟩
/-- the tuple at a, each item in a new pair with its place -/
def IteT (K : PySem.W.Frag) (a : Addr) : It :=
  ⟨fun i H => ∃ (xs : List V) (x : V), SqT K H a xs ∧ xs[i]? = some x, fun i H v H' => ∃ T x, v = .ref T ∧ H T = none ∧ H' = upd H T (.tup [.int (i : Nat), x]) ∧ ∀ xs, SqT K H a xs → xs[i]? = some x, fun i H => ∃ xs : List V, SqT K H a xs ∧ xs.length = i⟩
theorem tup_apart {h : Heap} {a e it : Addr} {items : Array Value} {j : Int} {old : Value} {i : Nat} (T : h.IsTuple a items) (he : IsEnum h e it j old) (hi : h.IsTupleIter it a i) : a ≠ e ∧ a ≠ it := by
  obtain ⟨o, e1, c1, _⟩ := T
  obtain ⟨o2, e2, c2, _⟩ := hi
  refine ⟨fun z => ?_, fun z => ?_⟩
  · subst z; rw [he] at e1; cases e1; exact absurd (Value.type.inj c1) (by decide)
  · subst z; rw [e1] at e2; cases e2; rw [c1] at c2; exact absurd (Value.type.inj c2) (by decide)
theorem turn_enumT {P : Program} {w : World} {K : PySem.W.Frag} {elts : List Expr} {kk : Nat} {tpos : Pos} (a e it : Addr) :
    Turn P w K (.Tuple elts kk tpos) (IteT K a) [e, it] e (fun i h => (∃ old, IsEnum h e it ((i : Nat) : Int) old) ∧ h.IsTupleIter it a i ∧ e ≠ it) where
  mem := by simp
  obj := fun i h ⟨⟨old, he⟩, ⟨o, ho, hc, hd⟩, _⟩ b hb => by
    rcases (show b = e ∨ b = it by simpa using hb) with z | z
    · rw [z]; exact ⟨_, he, fun v q => nomatch q⟩
    · rw [z]; exact ⟨o, ho, fun v q => by rw [hd] at q; cases q⟩
  keep := fun i h h' ⟨⟨old, he⟩, hi, hne⟩ k => ⟨⟨old, k e (by simp) _ he⟩, hi.at fun o q => k it (by simp) o q, hne⟩
  item := by
    intro X hP hw hK hc i pins s σ H E I hf ⟨⟨old, he⟩, hit, hne⟩ ⟨xs, x, hq, hx⟩
    subst hP hw hK
    obtain ⟨its, rv, p, hz⟩ := I.tuple hq
    have T : s.heap.IsTuple a its.toArray := p
    obtain ⟨u, hu, ru⟩ := rv.get hx
    obtain ⟨ae, ai⟩ := tup_apart T he hit
    have lts : e < s.heap.objs.size ∧ it < s.heap.objs.size := ⟨Heap.lt_size he, let ⟨_, q, _⟩ := hit; Heap.lt_size q⟩
    have hlt : i < its.toArray.size := by
      have := (List.getElem?_eq_some_iff.mp hu).1
      simpa using this
    refine wpAny_pyNext_enum_itemD (Draws.tuple (A := X.A.in1) (show X.A.in1.handled = none from I.ok.hd hc) it a ai its.toArray) he ⟨hit, T⟩ hlt hne (by simp [hne, Ne.symm ae]) fun x' h' tk px ho st' hT hsz hk => ?_
    have ex : x' = u := by
      have px : its.toArray[i]? = some x' := px
      rw [List.getElem?_toArray, hu] at px
      exact (Option.some.inj px).symm
    subst ex
    refine ⟨_, rfl, wpAny_letOwnedTupleGo_enum (s := { s with heap := h', toks := tk + 1 }) ho fun h'' he' sb => ?_⟩
    have hT2 : h''.get? s.heap.objs.size = some { cls := .type "tuple", data := .seq #[.int i tk, x'] } := (sb.2 _ (Nat.ne_of_gt lts.1)).trans hT
    have I1 : Inv X pins σ (upd H s.heap.objs.size (.tup [.int (i : Nat), x])) { s with heap := h'', toks := tk + 1 } :=
      I.turnedNew (ch := [e, it]) (fun b ob hb q => (sb.2 b (fun z => hb (by simp [z]))).trans (hk b ob (fun z => hb (by simp [z])) (fun z => hb (by simp [z])) q)) hf (Nat.le_refl _)
        ⟨by show 2 ≤ sizeLine; decide, [.int i tk, x'], .cons ⟨_, rfl⟩ (.cons ru .nil), ⟨_, hT2, rfl, _, rfl⟩⟩
    refine ⟨.ref s.heap.objs.size, _, I1, rfl, ⟨_, x, rfl, I.hok.fresh (Nat.le_refl _), rfl, fun ys hy => by rw [I.tuple_inj hy hq]; exact hx⟩, ⟨⟨x', ?_⟩, st'.1.at fun o q => (sb.2 it (Ne.symm hne)).trans q, hne⟩, fun b hb => ?_⟩
    · rw [show ((i + 1 : Nat) : Int) = (i : Int) + 1 by omega]; exact he'
    · have hb' : b < s.heap.objs.size := (show b = e ∨ b = it by simpa using hb).elim (fun z => by rw [z]; exact lts.1) fun z => by rw [z]; exact lts.2
      rw [upd_ne (Nat.ne_of_lt hb')]
      exact (hf b hb).1
  done := by
    intro X hP hw hK hc i pins s σ H E I hf ⟨⟨old, he⟩, hit, hne⟩ ⟨xs, hq, hx⟩
    subst hP hw hK
    obtain ⟨its, rv, p, hz⟩ := I.tuple hq
    have T : s.heap.IsTuple a its.toArray := p
    obtain ⟨f0, f1, f2, f3, f4, f5⟩ := hf it (by simp)
    have hn : i = its.toArray.size := by rw [List.size_toArray, ← rv.length]; exact hx.symm
    refine wpAny_pyNext_enum_endD (Draws.tuple (A := X.A.in1) (show X.A.in1.handled = none from I.ok.hd hc) it a (tup_apart T he hit).2 its.toArray) he (by rw [← hn]; exact ⟨hit, T⟩) fun h' eb => ⟨rfl, I.turned (t' := s.toks) (fun b o hb q => eb b o hb q) f0 f1 f3 f4 f5⟩
  self := fun A i s Q E ⟨⟨_, he⟩, _⟩ h => wpAny_pyIter_enum he h
def iEnumT (K : PySem.W.Frag) (ta : TA) : TI := fun σ H R => ta σ H fun vs H1 => ∃ a xs, vs = [.ref a] ∧ ((SqL K H1 a xs ∧ R (Ite K a) H1) ∨ (SqT K H1 a xs ∧ R (IteT K a) H1))
theorem pi_enumT {X : Cx} {e : Expr} {ta : TA} {p pos tpos : Pos} {elts : List Expr} {kk : Nat} (hg : Gl X "enumerate") (hm : X.mg "enumerate" = none) (ha : PA X [e] ta) (hs : starEach [e] X.env = [(false, eval e X.env)] := by rfl) :
    PI X (.Tuple elts kk tpos) (.Call (.Name "enumerate" p) [e] [] pos) (iEnumT X.K ta) := by
  refine ⟨fun pins s σ H R I h => Call_ (ld_blt I hg hm boot_enumerate (PyProof.Rows.callWith_type1 (thn (ha.run pos pins s σ H _ I h) fun us s1 ⟨vs, H1, I1, r1, a, xs, ex, q⟩ => ?_) hs rfl))⟩
  subst ex
  cases r1 with
  | cons r rr =>
    cases rr; cases r
    have fp : ∀ b ∈ [s1.heap.objs.size + 1, s1.heap.objs.size], s1.heap.objs.size ≤ b := fun b hb => (show b = s1.heap.objs.size + 1 ∨ b = s1.heap.objs.size by simpa using hb).elim (fun z => by rw [z]; exact Nat.le_add_right _ _) fun z => by rw [z]; exact Nat.le_refl _
    rcases q with ⟨hq, q⟩ | ⟨hq, q⟩
    · obtain ⟨its, rv, p', hz⟩ := I1.list hq
      exact call_enumerate_list p'.isList fun h' he hit hsz hk => wpAny_pyIter_enum he ⟨s1.heap.objs.size + 1, [s1.heap.objs.size + 1, s1.heap.objs.size], _, _, H1, rfl, I1.kept (t' := s1.toks) hk, turn_enum a _ _, ⟨⟨.none, he⟩, hit, Nat.succ_ne_self _⟩, fun b hb => I1.fpOk (fp b hb) (I1.hok.fresh (fp b hb)), q⟩
    · obtain ⟨its, rv, p', hz⟩ := I1.tuple hq
      exact call_enum_tup (show s1.heap.IsTuple a its.toArray from p') fun h' he hit hk => wpAny_pyIter_enum he ⟨s1.heap.objs.size + 1, [s1.heap.objs.size + 1, s1.heap.objs.size], _, _, H1, rfl, I1.kept (t' := s1.toks) hk, turn_enumT a _ _, ⟨⟨.none, he⟩, hit, Nat.succ_ne_self _⟩, fun b hb => I1.fpOk (fp b hb) (I1.hok.fresh (fp b hb)), q⟩
end DL
namespace DL
open PySem PySem.Spec PyProof.Rows L2
/-! ### enumerate, zip as sources -/
def enD : Nat → List D → List D
  | _, [] => []
  | n, x :: r => .tup [.int n, x] :: enD (n + 1) r
theorem enD_get : ∀ (xs : List D) (n i : Nat), (enD n xs)[i]? = (xs[i]?).map fun x => .tup [.int ((n + i : Nat) : Int), x]
  | [], _, _ => by simp [enD]
  | x :: r, n, 0 => rfl
  | x :: r, n, i + 1 => by
    rw [enD, List.getElem?_cons_succ, List.getElem?_cons_succ, enD_get r (n + 1) i]
    have e : n + 1 + i = n + (i + 1) := by omega
    rw [e]
theorem enD_len : ∀ (xs : List D) (n : Nat), (enD n xs).length = xs.length
  | [], _ => rfl
  | x :: r, n => by rw [enD, List.length_cons, List.length_cons, enD_len r (n + 1)]
def zpD : List D → List D → List D
  | x :: r, y :: t => .tup [x, y] :: zpD r t
  | _, _ => []
theorem zpD_get : ∀ (xs ys : List D) (i : Nat) (x y : D), xs[i]? = some x → ys[i]? = some y → (zpD xs ys)[i]? = some (.tup [x, y])
  | x :: r, y :: t, 0, _, _, e1, e2 => by cases e1; cases e2; rfl
  | x :: r, y :: t, i + 1, a, b, e1, e2 => by
    rw [List.getElem?_cons_succ] at e1 e2
    rw [zpD, List.getElem?_cons_succ]; exact zpD_get r t i a b e1 e2
  | [], _, _, _, _, e1, _ => by simp at e1
  | _ :: _, [], _, _, _, _, e2 => by simp at e2
theorem zpD_len : ∀ (xs ys : List D), (zpD xs ys).length = min xs.length ys.length
  | x :: r, y :: t => by rw [zpD, List.length_cons, List.length_cons, List.length_cons, zpD_len r t]; omega
  | [], _ => by simp [zpD]
  | _ :: _, [] => by simp [zpD]
theorem rep_lst {K : KW} {h : MH} {H : Hp} {a : Addr} {xs : List D} (r : RepH K h H) (e : stabO a xs h) : ∃ vs, H a = some (.lst vs) ∧ RepVs K H xs vs := r a (.lst xs) e
section
variable {K : KW}
/-- a new pair -/
theorem pair_rep {h : MH} {H : Hp} {T : Addr} {x y : V} {d e : D} (rh : RepH K h H) (nT : H T = none) (r1 : RepV K H d x) (r2 : RepV K H e y) :
    RepV K (upd H T (.tup [x, y])) (.tup [d, e]) (.ref T) ∧ Stp h H h (upd H T (.tup [x, y])) ∧ RepH K h (upd H T (.tup [x, y])) := by
  have m := Stp.mo rh (Stp.hide (o := .tup [x, y]) nT)
  exact ⟨⟨T, _, rfl, .inl (.inl upd_same), .cons (RepV.mono m _ r1) (.cons (RepV.mono m _ r2) .nil)⟩, Stp.hide nT, rh.hide nT⟩
theorem src_en {J : It} {H1 : Hp} {h1 : MH} {stab : MH → Prop} {xs : List D} {Sq : Hp → List V → Prop}
    (at_ : ∀ h H, Stp h1 H1 h H → RepH K h H → stab h → ∃ vs, Sq H vs ∧ RepVs K H xs vs)
    (go : ∀ i H vs v, Sq H vs → vs[i]? = some v → J.go i H) (yl : ∀ i H v H', J.yld i H v H' → ∃ T x, v = .ref T ∧ H T = none ∧ H' = upd H T (.tup [.int (i : Nat), x]) ∧ ∀ vs, Sq H vs → vs[i]? = some x) (st : ∀ H vs, Sq H vs → J.stop vs.length H) : SrcOk K J (enD 0 xs) stab h1 H1 := by
  refine ⟨fun h H i q rh sb hi => ?_, fun h H i v H' q rh sb hi y => ?_, fun h H q rh sb => ?_⟩
  · obtain ⟨vs, s, r⟩ := at_ h H q rh sb
    rw [enD_len] at hi
    obtain ⟨w, ew, _⟩ := P2.get r.pair (List.getElem?_eq_getElem hi)
    exact go i H vs w s ew
  · obtain ⟨vs, s, r⟩ := at_ h H q rh sb
    obtain ⟨T, x, rfl, nT, rfl, hx⟩ := yl i H v H' y
    obtain ⟨d, ed, rd⟩ := P2.get' r.pair (hx vs s)
    obtain ⟨a, b, c⟩ := pair_rep (d := .int (i : Nat)) (x := .int (i : Nat)) rh nT rfl rd
    exact ⟨_, by rw [enD_get, ed, Nat.zero_add]; rfl, a, b, c⟩
  · obtain ⟨vs, s, r⟩ := at_ h H q rh sb
    rw [enD_len, r.length]
    exact st H vs s
theorem src_zp {J : It} {H1 : Hp} {h1 : MH} {stab : MH → Prop} {xs ys : List D} {Sa Sb : Hp → List V → Prop}
    (at_ : ∀ h H, Stp h1 H1 h H → RepH K h H → stab h → ∃ vs us, Sa H vs ∧ RepVs K H xs vs ∧ Sb H us ∧ RepVs K H ys us)
    (go : ∀ i H vs us v u, Sa H vs → Sb H us → vs[i]? = some v → us[i]? = some u → J.go i H) (yl : ∀ i H v H', J.yld i H v H' → ∃ T x y, v = .ref T ∧ H T = none ∧ H' = upd H T (.tup [x, y]) ∧ (∀ vs, Sa H vs → vs[i]? = some x) ∧ ∀ us, Sb H us → us[i]? = some y)
    (st : ∀ H vs us, Sa H vs → Sb H us → J.stop (min vs.length us.length) H) : SrcOk K J (zpD xs ys) stab h1 H1 := by
  refine ⟨fun h H i q rh sb hi => ?_, fun h H i v H' q rh sb hi y => ?_, fun h H q rh sb => ?_⟩
  · obtain ⟨vs, us, s, r, s2, r2⟩ := at_ h H q rh sb
    rw [zpD_len] at hi
    obtain ⟨w, ew, _⟩ := P2.get r.pair (List.getElem?_eq_getElem (show i < xs.length by omega))
    obtain ⟨w2, ew2, _⟩ := P2.get r2.pair (List.getElem?_eq_getElem (show i < ys.length by omega))
    exact go i H vs us w w2 s s2 ew ew2
  · obtain ⟨vs, us, s, r, s2, r2⟩ := at_ h H q rh sb
    obtain ⟨T, x, y, rfl, nT, rfl, hx, hy⟩ := yl i H v H' y
    obtain ⟨d, ed, rd⟩ := P2.get' r.pair (hx vs s)
    obtain ⟨e, ee, re⟩ := P2.get' r2.pair (hy us s2)
    obtain ⟨a, b, c⟩ := pair_rep rh nT rd re
    exact ⟨_, zpD_get _ _ _ _ _ ed ee, a, b, c⟩
  · obtain ⟨vs, us, s, r, s2, r2⟩ := at_ h H q rh sb
    rw [zpD_len, r.length, r2.length]
    exact st H vs us s s2
end
def enO (a : Addr) (h : MH) (Q : List D → (MH → Prop) → MH → Prop) : Option MO → Prop
  | some (.lst xs) => Q (enD 0 xs) (stabO a xs) h
  | _ => False
def enK (ds : List D) (h : MH) (Q : List D → (MH → Prop) → MH → Prop) : Prop := match ds with
  | [.tup xs] => Q (enD 0 xs) (fun _ => True) h
  | [.ref a] => enO a h Q (h a)
  | _ => False
def iEn (ta : A1) : I1 := fun σ h Q => ta σ h fun ds h1 => enK ds h1 Q
def zpO (a b : Addr) (h : MH) (Q : List D → (MH → Prop) → MH → Prop) : Option MO → Option MO → Prop
  | some (.lst xs), some (.lst ys) => Q (zpD xs ys) (fun h => stabO a xs h ∧ stabO b ys h) h
  | _, _ => False
def zpK (ds : List D) (h : MH) (Q : List D → (MH → Prop) → MH → Prop) : Prop := match ds with
  | [.tup xs, .tup ys] => Q (zpD xs ys) (fun _ => True) h
  | [.ref a, .ref b] => zpO a b h Q (h a) (h b)
  | _ => False
def iZp (ta : A1) : I1 := fun σ h Q => ta σ h fun ds h1 => zpK ds h1 Q
section
variable {X : Cx}
theorem di_enum {e : Expr} {ta : A1} {p pos tpos : Pos} {elts : List Expr} {kk : Nat} (hg : Gl X "enumerate") (hm : X.mg "enumerate" = none) (ha : DA X [e] ta) (hs : starEach [e] X.env = [(false, eval e X.env)] := by rfl) :
    DI X (.Tuple elts kk tpos) (.Call (.Name "enumerate" p) [e] [] pos) (iEn ta) :=
  weakI (pi_enumT hg hm ha hs) fun σV H R ⟨σ, h, Q, hE, hH, ht, hc⟩ => ⟨σ, h, _, hE, hH, ht, fun ds h' vs H' s' r' rv q => by
    have q : enK ds h' Q := q
    unfold enK at q
    split at q
    · rename_i xs
      obtain ⟨v, r, rfl, r1, r2⟩ := rv
      cases (show r = [] from r2)
      obtain ⟨a, us, rfl, sq, ru⟩ := r1
      refine ⟨a, us, rfl, .inr ⟨sq, hc _ _ _ _ _ s' r' (src_en (Sq := fun H vs => SqT X.K H a vs) (fun h2 H2 q2 _ _ => ⟨us, (Stp.mo r' q2).t _ _ sq, RepVs.mono (Stp.mo r' q2) _ ru⟩) (fun i H vs v s e => ⟨vs, v, s, e⟩) (fun i H v H' y => y) fun H vs s => ⟨vs, s, rfl⟩) q⟩⟩
    · rename_i a _
      obtain ⟨v, r, rfl, r1, r2⟩ := rv
      cases (show r = [] from r2)
      cases (show v = .ref a from r1)
      cases e : h' a with
      | none => rw [e] at q; exact q.elim
      | some o =>
        rw [e] at q
        cases o with
        | lst xs =>
          obtain ⟨us, eH, ru⟩ := r' a _ e
          refine ⟨a, us, rfl, .inl ⟨SqL.of eH, hc _ _ _ _ _ s' r' (src_en (Sq := fun H vs => SqL X.K H a vs) (fun h2 H2 _ rh sb => let ⟨ws, e2, rw2⟩ := rep_lst rh sb; ⟨ws, SqL.of e2, rw2⟩) (fun i H vs v s e => ⟨vs, v, s, e⟩) (fun i H v H' y => y) fun H vs s => ⟨vs, s, Nat.le_refl _⟩) q⟩⟩
        | dic _ => exact q.elim
        | ins _ _ => exact q.elim
        | fdic _ _ => exact q.elim
    · exact q.elim⟩
theorem di_zip {e e2 : Expr} {ta : A1} {p pos tpos : Pos} {elts : List Expr} {kk : Nat} (hg : Gl X "zip") (hm : X.mg "zip" = none) (ha : DA X [e, e2] ta)
    (hs : starEach [e, e2] X.env = (false, eval e X.env) :: starEach [e2] X.env := by rfl) (hpl : (backTo pos (starEach [e2] X.env)).any (·.1) = false := by rfl) :
    DI X (.Tuple elts kk tpos) (.Call (.Name "zip" p) [e, e2] [] pos) (iZp ta) :=
  weakI (RZ.pi_zipA hg hm ha hs hpl) fun σV H R ⟨σ, h, Q, hE, hH, ht, hc⟩ => ⟨σ, h, _, hE, hH, ht, fun ds h' vs H' s' r' rv q => by
    have q : zpK ds h' Q := q
    unfold zpK at q
    split at q
    · rename_i xs ys
      obtain ⟨v, r, rfl, r1, v2, r2, rfl, r3, r4⟩ := rv
      cases (show r2 = [] from r4)
      obtain ⟨a, us, rfl, sq, ru⟩ := r1
      obtain ⟨b, ws, rfl, sq2, rw2⟩ := r3
      refine ⟨a, b, us, ws, rfl, .inr ⟨sq, sq2, hc _ _ _ _ _ s' r' (src_zp (Sa := fun H vs => SqT X.K H a vs) (Sb := fun H vs => SqT X.K H b vs) (fun h2 H2 q2 _ _ => ⟨us, ws, (Stp.mo r' q2).t _ _ sq, RepVs.mono (Stp.mo r' q2) _ ru, (Stp.mo r' q2).t _ _ sq2, RepVs.mono (Stp.mo r' q2) _ rw2⟩)
        (fun i H vs us v u s s2 e e2 => ⟨vs, us, v, u, s, s2, e, e2⟩) (fun i H v H' y => y) fun H vs us s s2 => ⟨vs, us, s, s2, by omega⟩) q⟩⟩
    · rename_i a b _
      obtain ⟨v, r, rfl, r1, v2, r2, rfl, r3, r4⟩ := rv
      cases (show r2 = [] from r4)
      cases (show v = .ref a from r1)
      cases (show v2 = .ref b from r3)
      have q : zpO a b h' Q (h' a) (h' b) := q
      cases e : h' a with
      | none => rw [e] at q; exact (show False from q).elim
      | some o =>
        cases f : h' b with
        | none => rw [e, f] at q; cases o <;> exact (show False from q).elim
        | some o2 =>
          rw [e, f] at q
          cases o <;> cases o2 <;> first | (exact (show False from q).elim) | skip
          rename_i xs ys
          obtain ⟨us, eH, ru⟩ := r' a _ e
          obtain ⟨ws, fH, rw2⟩ := r' b _ f
          refine ⟨a, b, us, ws, rfl, .inl ⟨SqL.of eH, SqL.of fH, hc _ _ _ _ _ s' r' (src_zp (Sa := fun H vs => SqL X.K H a vs) (Sb := fun H vs => SqL X.K H b vs) (fun h2 H2 _ rh sb => let ⟨x1, e2, x2⟩ := rep_lst rh sb.1; let ⟨y1, f2, y2⟩ := rep_lst rh sb.2; ⟨x1, y1, SqL.of e2, x2, SqL.of f2, y2⟩)
            (fun i H vs us v u s s2 e e2 => ⟨vs, us, v, u, s, s2, e, e2⟩) (fun i H v H' y => y) fun H vs us s s2 => ⟨vs, us, s, s2, by omega⟩) q⟩⟩
    · exact q.elim⟩
end
end DL
namespace DL
open PySem PySem.Spec PyProof.Rows L2
/-! ### repr: its signs are signs -/
def okC (x : Str) : Prop := PyData.strOk x = true
theorem okC_iff {x : Str} : okC x ↔ ∀ c ∈ x.cps.toList, c < 0x110000 := by
  unfold okC PyData.strOk
  rw [← Array.all_toList, List.all_eq_true]
  simp
theorem okC.app {x y : Str} (a : okC x) (b : okC y) : okC (x ++ y) := by
  rw [okC_iff] at a b ⊢
  intro c hc
  have hc : c ∈ (x.cps ++ y.cps).toList := hc
  rw [Array.toList_append, List.mem_append] at hc
  exact hc.elim (a c) (b c)
theorem char_ok (c : Char) : c.toNat < 0x110000 := by
  have h := c.valid
  unfold Char.toNat
  rcases h with h | h <;> omega
theorem okC_of (s : String) : okC (Str.ofString s) := by
  rw [okC_iff]
  intro c hc
  rw [Str.ofString_eq_toList] at hc
  have hc : c ∈ s.toList.map Char.toNat := by simpa using hc
  simp only [List.mem_map] at hc
  obtain ⟨d, _, rfl⟩ := hc
  exact char_ok d
theorem hex_ok (n c : Nat) : ∀ d ∈ List.replicate n 48 ++ (Nat.toDigits 16 c).map Char.toNat, d < 0x110000 := by
  intro d hd
  rcases List.mem_append.mp hd with hd | hd
  · rw [(List.mem_replicate.mp hd).2]; decide
  · obtain ⟨e, _, rfl⟩ := List.mem_map.mp hd
    exact char_ok e
theorem reprChar_ok (q c : Nat) (hc : c < 0x110000) : ∀ d ∈ Builtin.Str.reprChar q c, d < 0x110000 := by
  have cons : ∀ {x : Nat} {l : List Nat}, x < 0x110000 → (∀ d ∈ l, d < 0x110000) → ∀ d ∈ x :: l, d < 0x110000 := fun hx hl d hd => (List.mem_cons.mp hd).elim (fun e => by rw [e]; exact hx) (hl d)
  have nil : ∀ d ∈ ([] : List Nat), d < 0x110000 := by simp
  unfold Builtin.Str.reprChar
  dsimp only
  repeat' split
  all_goals first
    | exact cons (by decide) (cons hc nil)
    | exact cons (by decide) (cons (by decide) nil)
    | exact cons hc nil
    | exact cons (by decide) (cons (by decide) (hex_ok _ _))
theorem foldl_ok (q : Nat) : ∀ (l : List Nat) (acc : Array Nat), (∀ c ∈ l, c < 0x110000) → (∀ c ∈ acc.toList, c < 0x110000) → ∀ c ∈ (l.foldl (fun out c => out ++ (Builtin.Str.reprChar q c).toArray) acc).toList, c < 0x110000
  | [], acc, _, h => h
  | c :: r, acc, h, ha => by
    rw [List.foldl_cons]
    refine foldl_ok q r _ (fun d hd => h d (by simp [hd])) fun d hd => ?_
    rw [Array.toList_append, List.mem_append] at hd
    exact hd.elim (ha d) (reprChar_ok q c (h c (by simp)) d)
theorem okC_repr {x : Str} (h : okC x) : okC (reprText x) := by
  rw [okC_iff] at h ⊢
  unfold reprText
  have qq : reprQuote x < 0x110000 := by unfold reprQuote; split <;> decide
  intro c hc
  have hc : c ∈ ((x.cps.foldl (fun out c => out ++ (Builtin.Str.reprChar (reprQuote x) c).toArray) #[reprQuote x]).push (reprQuote x)).toList := hc
  rw [Array.toList_push, List.mem_append, ← Array.foldl_toList] at hc
  rcases hc with hc | hc
  · exact foldl_ok _ _ _ h (fun d hd => by
      have e : d = reprQuote x := by simpa using hd
      rw [e]; exact qq) c hc
  · have : c = reprQuote x := by simpa using hc
    rw [this]; exact qq
theorem okC_join {sep : Str} (hs : okC sep) : ∀ {ts : List Str}, (∀ t ∈ ts, okC t) → okC (Str.join sep ts)
  | [], _ => okC_of ""
  | [x], h => h x (by simp)
  | x :: y :: r, h => by
    show okC (x ++ sep ++ Str.join sep (y :: r))
    exact ((h x (by simp)).app hs).app (okC_join hs fun t ht => h t (by simp [ht]))
theorem okC_from : ∀ {ts : List Str} {k : Nat} {acc : Str}, (∀ t ∈ ts, okC t) → okC acc → okC (textFrom k acc ts)
  | [], _, _, _, a => a
  | t :: ts, k, acc, h, a => by
    show okC (textFrom (k + 1) (acc ++ (if k > 0 then ", " else "" : String) ++ t) ts)
    exact okC_from (fun u hu => h u (by simp [hu])) ((a.app (okC_of _)).app (h t (by simp)))
mutual
theorem okC_shown {K : KW} {H : Hp} : ∀ (n : Nat) (d : D) {v : V}, pure? n d = true → RepV K H d v → okC (pd d).shown
  | _, .none, _, _, _ => okC_of "None"
  | _, .bool b, _, _, _ => by cases b <;> exact okC_of _
  | _, .int i, _, _, _ => okC_of _
  | _, .str x, _, _, r => okC_repr r.2.2
  | 0, .tup ds, _, h, _ => by simp [pure?] at h
  | n + 1, .tup ds, _, h, r => by
    have h' : pures? n ds = true := by simpa [pure?] using h
    obtain ⟨_, _, _, _, rs⟩ := r
    have hs := okC_showns n ds h' rs
    show okC (tupleText (PyData.shownAll (pds ds)))
    unfold tupleText
    refine ((okC_of "(").app (okC_join (okC_of ", ") hs)).app ?_
    split <;> exact okC_of _
  | 0, .rol ds, _, h, _ => by simp [pure?] at h
  | n + 1, .rol ds, _, h, r => by
    have h' : pures? n ds = true := by simpa [pure?] using h
    obtain ⟨_, _, _, _, rs⟩ := r
    have hs := okC_showns n ds h' rs
    show okC (listText (PyData.shownAll (pds ds)))
    unfold listText
    exact (okC_from hs (okC_of "[")).app (okC_of "]")
  | n, .ref _, _, h, _ => by simp [pure?] at h
  | n, .ty _, _, h, _ => by simp [pure?] at h
theorem okC_showns {K : KW} {H : Hp} : ∀ (n : Nat) (ds : List D) {vs : List V}, pures? n ds = true → RepVs K H ds vs → ∀ t ∈ PyData.shownAll (pds ds), okC t
  | _, [], _, _, _ => by simp [pds, PyData.shownAll]
  | n, d :: ds, _, h, r => by
    have h' : pure? n d = true ∧ pures? n ds = true := by simpa [pures?] using h
    obtain ⟨_, _, _, r1, r2⟩ := r
    intro t ht
    rw [pds, PyData.shownAll] at ht
    rcases List.mem_cons.mp ht with rfl | ht
    · exact okC_shown n d h'.1 r1
    · exact okC_showns n ds h'.2 r2 t ht
end
end DL
namespace DL
open PySem PySem.Spec PyProof.Rows L2
/-! ### repr -/
def reprD (x : D) (h : MH) (Q : KD) : Prop := pure? 60 x = true ∧ (pd x).showable = true ∧ (pd x).shown.length ≤ sizeLine ∧ Q (.str (pd x).shown) h
mutual
theorem pd_noDict : ∀ d : D, (pd d).hasDict = false
  | .none => rfl
  | .bool _ => rfl
  | .int _ => rfl
  | .str _ => rfl
  | .ref _ => rfl
  | .ty _ => rfl
  | .tup ds => by show PyData.hasDictAll (pds ds) = false; exact pds_noDict ds
  | .rol ds => by show PyData.hasDictAll (pds ds) = false; exact pds_noDict ds
theorem pds_noDict : ∀ ds : List D, PyData.hasDictAll (pds ds) = false
  | [] => rfl
  | d :: ds => by rw [pds, PyData.hasDictAll, pd_noDict d, pds_noDict ds]; rfl
end
section
variable {X : Cx}
theorem xd_repr (hu : X.A.units + 65 < cLine) (hg : X.A.guards = some []) : CallR X (.builtin "repr") (lowC X.kw (on1 reprD)) := by
  intro pins s σ H xs us QV I rx ⟨ds, h, Q, rv, hH, hr, hc⟩
  obtain ⟨d, rfl, p, sh, len, q⟩ := on1_inv hr
  obtain ⟨x, rfl, rd⟩ := rep1 rv
  have ok : okS (pd d).shown := ⟨len, okC_shown 60 d p rd⟩
  have fin : QV (.str (pd d).shown) H := hc (.str _) h _ H Stp.refl hH ⟨rfl, ok⟩ q
  cases rx with
  | cons r1 r2 =>
    cases r2
    have big : ∀ {a : Addr}, x = .ref a → wpAny (model X.prog X.w) X.A (call (.builtin "repr") [.ref a]) (EP X pins σ QV) X.xe s := by
      rintro a rfl
      obtain ⟨dp, _⟩ := dp_of rd p
      obtain ⟨as, rr⟩ := Dp.reads I (pd d) (.ref a) (.ref a) dp rfl
      have dep := pd_depth 60 d p
      exact repr_of_reads' rr sh (fun z => by rw [pd_noDict] at z; cases z) hg (by omega) (fun _ _ e => e) (fun h' u tk hk => ⟨.str _, H, I.kept (t' := tk) hk, ⟨u, rfl⟩, fin⟩) len
    cases d with
    | none => cases (show x = _ from rd); cases r1; exact PySem.P.repr_of_none ⟨.str _, H, I.tok _, ⟨_, rfl⟩, fin⟩
    | bool b => cases (show x = _ from rd); cases r1; exact PySem.P.repr_of_bool ⟨.str _, H, I.tok _, ⟨_, rfl⟩, by cases b <;> exact fin⟩
    | int i =>
      cases (show x = _ from rd)
      obtain ⟨t, rfl⟩ := r1
      exact PySem.P.repr_of_int (of_decide_eq_true sh) ⟨.str _, H, I.tok _, ⟨_, rfl⟩, fin⟩
    | str z =>
      obtain ⟨rfl, _⟩ := rd
      obtain ⟨t, rfl⟩ := r1
      exact PySem.P.repr_of_str ⟨.str _, H, I.tok _, ⟨_, rfl⟩, fin⟩ len
    | tup ds =>
      obtain ⟨a, vs, ex, _⟩ := id rd
      have := big ex
      subst ex
      cases r1; exact this
    | rol ds =>
      obtain ⟨a, vs, ex, _⟩ := id rd
      have := big ex
      subst ex
      cases r1; exact this
    | ref _ => simp [pure?] at p
    | ty _ => simp [pure?] at p
/-! ### str(i), str(text) -/
def strD (x : D) (h : MH) (Q : KD) : Prop := match x with
  | .int i => i.natAbs.log2 < 1920 ∧ Q (.str (Str.ofString (toString i))) h
  | .str z => Q (.str z) h
  | _ => False
theorem int_len (i : Int) (h : i.natAbs.log2 < 1920) : (Str.ofString (toString i)).length ≤ sizeLine := int_text_fits h
theorem xd_str : CallR X (.type "str") (lowC X.kw (on1 strD)) := callR_1 fun x d h H Q QV rx hH hr hc => by
  cases d <;> try exact hr.elim
  case int i =>
    cases (show x = _ from rx)
    exact ⟨_, call_str_int, i, rfl, hr.1, hc.str hH ⟨int_len i hr.1, okC_of _⟩ hr.2⟩
  case str z =>
    obtain ⟨rfl, ok⟩ := rx
    exact ⟨_, SkE.call_str_str, z, rfl, hc.str hH ok hr⟩
/-! ### max, min of a list -/
def maxLD (x : D) (h : MH) (Q : KD) : Prop := intsK (fun ns => 0 < ns.length ∧ ∀ m, m ∈ ns → (∀ y, y ∈ ns → y ≤ m) → Q (.int m) h) h x
def minLD (x : D) (h : MH) (Q : KD) : Prop := intsK (fun ns => 0 < ns.length ∧ ∀ m, m ∈ ns → (∀ y, y ∈ ns → m ≤ y) → Q (.int m) h) h x
theorem xd_maxL (hc : X.calm = true) : CallR X (.builtin "max") (lowC X.kw (on1 maxLD)) := callR_1 fun x d h H Q QV rx hH hr hcl => by
  obtain ⟨a, ns, rfl, s, p, q⟩ := intsK_rep hH rx hr
  exact ⟨_, cr_max hc, a, ns, rfl, s, p, fun m hm hy => hcl.int hH (q m hm hy)⟩
theorem xd_minL (hc : X.calm = true) : CallR X (.builtin "min") (lowC X.kw (on1 minLD)) := callR_1 fun x d h H Q QV rx hH hr hcl => by
  obtain ⟨a, ns, rfl, s, p, q⟩ := intsK_rep hH rx hr
  exact ⟨_, cr_min hc, a, ns, rfl, s, p, fun m hm hy => hcl.int hH (q m hm hy)⟩
end
end DL
namespace DL
open PySem PySem.Spec PyProof.Rows L2
/-! two dicts of numbers by texts that are one: != says no -/
def isI : D → Bool
  | .int _ => true
  | _ => false
def dicEq (h : MH) (x y : D) (k : Prop) : Prop := ∃ a b ks ls, x = .ref a ∧ y = .ref b ∧ h a = some (.dic ks) ∧ h b = some (.dic ls) ∧ ks ≠ [] ∧ ls ≠ [] ∧ ks.length = ls.length ∧ (∀ p ∈ ks, (scaK p.1).isSome = true) ∧ (∀ p ∈ ls, (scaK p.1).isSome = true) ∧ (∀ p ∈ ks, dget ls p.1 = some p.2 ∧ isI p.2 = true) ∧ k
def neDX : R1 := fun x y h Q => neD x y h Q ∨ dicEq h x y (Q (.bool false) h)
theorem dicK {K : KW} {H : Hp} {a : Addr} {ks : Kvs} (r : RepO K H a (.dic ks)) (ne : ks ≠ []) (s : ∀ p ∈ ks, (scaK p.1).isSome = true) : ∃ kv, H a = some (.dK kv) ∧ RepKs K H ks kv := by
  rcases r with r | ⟨xs, r⟩
  · exact r
  · cases ks with
    | nil => exact absurd rfl ne
    | cons p r' =>
      have h1 := r.tup p (by simp)
      have h2 := s p (by simp)
      cases e : p.1 <;> rw [e] at h1 h2 <;> first | (cases h1; done) | (cases h2; done)
theorem od_neX {X : Cx} (hu : X.A.units + 64 < cLine) : OpR X (compareOp .NotEq) (lowR X.kw neDX) := opR_of fun x y H QV ⟨d, e, h, Q, rx, ry, hH, hr, hc⟩ => by
  rcases hr with hr | ⟨a, b, ks, ls, rfl, rfl, ea, eb, n1, n2, hl, s1, s2, hk, q⟩
  · exact ⟨_, od_ne hu, d, e, h, Q, rx, ry, hH, hr, hc⟩
  · cases (show x = _ from rx)
    cases (show y = _ from ry)
    obtain ⟨kv, eH, r1⟩ := dicK (hH _ _ ea) n1 s1
    obtain ⟨lv, eL, r2⟩ := dicK (hH _ _ eb) n2 s2
    refine ⟨_, op_ne_dictA (by omega), a, b, kv, lv, rfl, rfl, eH, eL, by rw [← Paired.length r1, ← Paired.length r2]; exact hl, fun q hq => ?_, hc.bl hH q⟩
    obtain ⟨i, hi⟩ := List.getElem?_of_mem hq
    obtain ⟨p, hp, e1, e2, e3⟩ := P2.get' r1 hi
    obtain ⟨g1, g2⟩ := hk p (List.mem_of_getElem? hp)
    have := dget_K r2 e1
    rw [g1] at this
    obtain ⟨v, ev, rv⟩ := RO.some_ this rfl
    cases ep : p.2 <;> rw [ep] at g2 <;> first | (cases g2; done) | skip
    rw [ep] at rv e3
    cases (show v = _ from rv)
    have e3 : q.2 = _ := e3
    rw [e3]
    exact ⟨ev, rfl⟩
end DL
namespace DL
open PySem PySem.Spec PyProof.Rows L2
/-! ### zip(tuple, text) -/
def ItzS (K : PySem.W.Frag) (a : Addr) (z : Str) : It :=
  ⟨fun i H => ∃ (xs : List V) (x : V) (c : Nat), SqT K H a xs ∧ xs[i]? = some x ∧ z.cps[i]? = some c,
    fun i H v H' => ∃ T x c, v = .ref T ∧ H T = none ∧ H' = upd H T (.tup [x, .str ⟨#[c]⟩]) ∧ (∀ xs, SqT K H a xs → xs[i]? = some x) ∧ z.cps[i]? = some c,
    fun i H => ∃ xs : List V, SqT K H a xs ∧ (i = xs.length ∨ i = z.cps.size) ∧ i ≤ xs.length ∧ i ≤ z.cps.size⟩
theorem turn_zipTS {P : Program} {w : World} {K : PySem.W.Frag} {elts : List Expr} {kk : Nat} {tpos : Pos} {a q TI TO i1 i2 : Addr} {z : Str} {t : Tok} (D : ZipSep2 q TI TO i1 i2 [i1, a] [i2]) :
    Turn P w K (.Tuple elts kk tpos) (ItzS K a z) [q, TI, TO, i1, i2] q (fun i h => IsZip h q TI TO .none ∧ IsTupOf2 h TI (.ref i1) (.ref i2) ∧ (∃ x y, IsTupOf2 h TO x y) ∧ h.IsTupleIter i1 a i ∧ h.IsStrIter i2 (strIterType z) z t i) where
  mem := by simp
  obj := fun i h st c hc => by
    obtain ⟨hz, hTI, ⟨x, y, hTO⟩, ⟨o1, e1, _, d1⟩, ⟨o2, e2, _, d2⟩⟩ := st
    have e' : c = q ∨ c = TI ∨ c = TO ∨ c = i1 ∨ c = i2 := by simpa using hc
    rcases e' with rfl | rfl | rfl | rfl | rfl
    · exact ⟨_, hz, fun v e => nomatch e⟩
    · exact ⟨_, hTI, fun v e => nomatch e⟩
    · exact ⟨_, hTO, fun v e => nomatch e⟩
    · exact ⟨o1, e1, fun v e => by rw [d1] at e; cases e⟩
    · exact ⟨o2, e2, fun v e => by rw [d2] at e; cases e⟩
  keep := fun i h h' st k => by
    obtain ⟨hz, hTI, ⟨x, y, hTO⟩, h1, ⟨o2, e2, r2⟩⟩ := st
    exact ⟨k q (by simp) _ hz, k TI (by simp) _ hTI, ⟨x, y, k TO (by simp) _ hTO⟩, h1.at fun o e => k i1 (by simp) o e, ⟨o2, k i2 (by simp) o2 e2, r2⟩⟩
  item := by
    intro X hP hw hK hc i pins s σ H E I hf st hg
    subst hP hw hK
    obtain ⟨hz, hTI, ⟨x0, y0, hTO⟩, h1, h2⟩ := st
    obtain ⟨xs, x, c, hqx, hx, hcx⟩ := hg
    obtain ⟨its, rv, p, _⟩ := I.tuple hqx
    obtain ⟨u, hu, ru⟩ := rv.get hx
    have T : s.heap.IsTuple a its.toArray := p
    have hd : X.A.in1.handled = none := I.ok.hd hc
    have ai : a ≠ i1 := fun e => by
      obtain ⟨o, e1, c1, _⟩ := T
      obtain ⟨o2, e2, c2, _⟩ := h1
      subst e; rw [e1] at e2; cases e2; rw [c1] at c2; exact absurd (Value.type.inj c2) (by decide)
    have lt1 : i < its.toArray.size := by have := (List.getElem?_eq_some_iff.mp hu).1; simpa using this
    have lt2 : i < z.cps.size := (Array.getElem?_eq_some_iff.mp hcx).1
    have hzl : q < s.heap.objs.size := Heap.lt_size hz
    refine wpAny_pyNext_zipD2_item D (Draws.tuple hd i1 a ai its.toArray) (Draws.text hd i2 z t) hz hTI hTO ⟨h1, T⟩ h2 lt1 lt2 fun x1 x2 h' tk p1 p2 z' TO' s1' s2' hT hsz hk => ?_
    have ex : x1 = u := by
      have p1 : its.toArray[i]? = some x1 := p1
      rw [List.getElem?_toArray, hu] at p1
      exact (Option.some.inj p1).symm
    obtain ⟨c', u2, hc2, ex2⟩ := p2
    rw [hcx] at hc2
    cases hc2
    subst ex ex2
    refine ⟨_, rfl, wpAny_letOwnedTupleGo_zip (s := { s with heap := h', toks := tk }) z' fun h'' z'' sb => ?_⟩
    have hT2 : h''.get? s.heap.objs.size = some { cls := .type "tuple", data := .seq #[x1, .str ⟨#[c]⟩ u2] } := (sb.2 _ (Nat.ne_of_gt hzl)).trans hT
    have I1 : Inv X pins σ (upd H s.heap.objs.size (.tup [x, .str ⟨#[c]⟩])) { s with heap := h'', toks := tk } :=
      I.turnedNew (ch := [q, TI, TO, i1, i2]) (fun b o hb e => (sb.2 b (fun w => hb (by simp [w]))).trans (hk b o (fun w => hb (by simp [w])) (fun w => hb (by simp [w])) (fun w => hb (by simp [w])) (fun w => hb (by simp [w])) e)) hf (Nat.le_refl _)
        ⟨by show 2 ≤ sizeLine; decide, [x1, .str ⟨#[c]⟩ u2], .cons ru (.cons ⟨_, rfl⟩ .nil), ⟨_, hT2, rfl, _, rfl⟩⟩
    refine ⟨.ref s.heap.objs.size, _, I1, rfl, ⟨_, x, c, rfl, I.hok.fresh (Nat.le_refl _), rfl, fun l hl => by rw [I.tuple_inj hl hqx]; exact hx, hcx⟩, ⟨z'', ?_, ⟨x1, .str ⟨#[c]⟩ u2, ?_⟩, ?_, ?_⟩, fun b hb => ?_⟩
    · exact (sb.2 _ D.TIz).trans (hk _ _ D.TIz D.TITO D.TIi1 D.TIi2 hTI)
    · exact (sb.2 _ D.TOz).trans TO'
    · exact s1'.1.at fun o e => (sb.2 _ (Ne.symm D.zi1)).trans e
    · obtain ⟨o2, e2, r2⟩ := s2'
      exact ⟨o2, (sb.2 _ (Ne.symm D.zi2)).trans e2, r2⟩
    · have hlt : b < s.heap.objs.size := by
        have e' : b = q ∨ b = TI ∨ b = TO ∨ b = i1 ∨ b = i2 := by simpa using hb
        rcases e' with rfl | rfl | rfl | rfl | rfl
        · exact hzl
        · exact Heap.lt_size hTI
        · exact Heap.lt_size hTO
        · obtain ⟨_, e1, _⟩ := h1; exact Heap.lt_size e1
        · obtain ⟨_, e2, _⟩ := h2; exact Heap.lt_size e2
      rw [upd_ne (Nat.ne_of_lt hlt)]
      exact (hf b hb).1
  done := by
    intro X hP hw hK hc i pins s σ H E I hf st hg
    subst hP hw hK
    obtain ⟨hz, hTI, ⟨x0, y0, hTO⟩, h1, h2⟩ := st
    obtain ⟨xs, hqx, hend, le1, le2⟩ := hg
    obtain ⟨its, rv, p, _⟩ := I.tuple hqx
    have T : s.heap.IsTuple a its.toArray := p
    have hd : X.A.in1.handled = none := I.ok.hd hc
    have ai : a ≠ i1 := fun e => by
      obtain ⟨o, e1, c1, _⟩ := T
      obtain ⟨o2, e2, c2, _⟩ := h1
      subst e; rw [e1] at e2; cases e2; rw [c1] at c2; exact absurd (Value.type.inj c2) (by decide)
    have en : its.toArray.size = xs.length := by rw [List.size_toArray]; exact rv.length.symm
    refine wpAny_pyNext_zipD2_end D (Draws.tuple hd i1 a ai its.toArray) (Draws.text hd i2 z t) hz hTI hTO ⟨h1, T⟩ h2 (by omega) le2 (by rw [en]; exact hend) fun h' tk hk => ⟨rfl, ?_⟩
    exact I.turnedL (ch := [q, TI, TO, i1, i2]) (fun b o hb e => hk b o (fun w => hb (by simp [w])) (fun w => hb (by simp [w])) (fun w => hb (by simp [w])) (fun w => hb (by simp [w])) e) hf
  self := fun A i s Q E st h => wpAny_pyIter_zip st.1 h
def iZipS (K : PySem.W.Frag) (ta : TA) : TI := fun σ H R => ta σ H fun vs H1 => ∃ a xs z, vs = [.ref a, .str z] ∧ SqT K H1 a xs ∧ R (ItzS K a z) H1
theorem pi_zipS {X : Cx} {e e2 : Expr} {ta : TA} {p pos tpos : Pos} {elts : List Expr} {kk : Nat} (hg : Gl X "zip") (hm : X.mg "zip" = none) (ha : PA X [e, e2] ta)
    (hs : starEach [e, e2] X.env = (false, eval e X.env) :: starEach [e2] X.env := by rfl) (hpl : (backTo pos (starEach [e2] X.env)).any (·.1) = false := by rfl) :
    PI X (.Tuple elts kk tpos) (.Call (.Name "zip" p) [e, e2] [] pos) (iZipS X.K ta) := by
  refine ⟨fun pins s σ H R I h => ?_⟩
  refine Call_ (ld_blt I hg hm PyProof.Rows.boot_zip (PyProof.Rows.callWith_type1 (thn (ha.run pos pins s σ H _ I h) fun us s1 ⟨vs, H1, I1, r1, a, xs, z, ex, hqx, q⟩ => ?_) hs hpl))
  subst ex
  cases r1 with
  | cons r rr =>
    cases rr with
    | cons r' rr =>
      cases rr
      cases r
      obtain ⟨t, rfl⟩ := r'
      obtain ⟨its, rv, p1, _⟩ := I1.tuple hqx
      obtain ⟨o1, ho1, _⟩ := id p1
      have la : a < s1.heap.objs.size := Heap.lt_size ho1
      refine zip_begins2 (begins_tuple a its.toArray) (begins_text z t) (show s1.heap.IsTuple a its.toArray from p1) trivial fun h' hz hTI hTO h1 h2 hsz hk => wpAny_pyIter_zip hz ?_
      have I2 : Inv X pins σ H1 { s1 with heap := h' } := I1.kept (t' := s1.toks) hk
      refine ⟨s1.heap.objs.size + 4, [s1.heap.objs.size + 4, s1.heap.objs.size + 2, s1.heap.objs.size + 3, s1.heap.objs.size, s1.heap.objs.size + 1], _, _, H1, rfl, I2, turn_zipTS (t := t) (zip_sep2 (fp1 := [a]) (fp2 := []) (by simpa using la) (by simp)), ⟨hz, hTI, ⟨_, _, hTO⟩, ⟨_, h1, rfl, rfl⟩, ⟨_, h2, rfl, rfl⟩⟩, fun c hc => ?_, q⟩
      have hle : s1.heap.objs.size ≤ c := by
        have e' : c = s1.heap.objs.size + 4 ∨ c = s1.heap.objs.size + 2 ∨ c = s1.heap.objs.size + 3 ∨ c = s1.heap.objs.size ∨ c = s1.heap.objs.size + 1 := by simpa using hc
        rcases e' with e | e | e | e | e <;> rw [e] <;> first | exact Nat.le_add_right _ _ | exact Nat.le_refl _
      exact I1.fpOk hle (I1.hok.fresh hle)
def zsK (ds : List D) (h : MH) (Q : List D → (MH → Prop) → MH → Prop) : Prop := match ds with
  | [.tup xs, .str z] => Q (zpD xs (signs z)) (fun _ => True) h
  | _ => False
def iZs (ta : A1) : I1 := fun σ h Q => ta σ h fun ds h1 => zsK ds h1 Q
theorem di_zipS {X : Cx} {e e2 : Expr} {ta : A1} {p pos tpos : Pos} {elts : List Expr} {kk : Nat} (hg : Gl X "zip") (hm : X.mg "zip" = none) (ha : DA X [e, e2] ta)
    (hs : starEach [e, e2] X.env = (false, eval e X.env) :: starEach [e2] X.env := by rfl) (hpl : (backTo pos (starEach [e2] X.env)).any (·.1) = false := by rfl) :
    DI X (.Tuple elts kk tpos) (.Call (.Name "zip" p) [e, e2] [] pos) (iZs ta) :=
  weakI (pi_zipS hg hm ha hs hpl) fun σV H R ⟨σ, h, Q, hE, hH, ht, hc⟩ => ⟨σ, h, _, hE, hH, ht, fun ds h' vs H' s' r' rv q => by
    have q : zsK ds h' Q := q
    unfold zsK at q
    split at q
    · rename_i xs z _
      obtain ⟨v, r, rfl, r1, v2, r2, rfl, r3, r4⟩ := rv
      cases (show r2 = [] from r4)
      obtain ⟨a, us, rfl, sq, ru⟩ := r1
      obtain ⟨rfl, ok⟩ := r3
      have len : (signs z).length = z.cps.size := by unfold signs; rw [List.length_map, Array.length_toList]
      have sg : ∀ (i c : Nat), z.cps[i]? = some c → (signs z)[i]? = some (.str ⟨#[c]⟩) := fun i c e => by unfold signs; rw [List.getElem?_map, Array.getElem?_toList, e]; rfl
      refine ⟨a, us, z, rfl, sq, hc _ _ _ _ _ s' r' ⟨fun h2 H2 i q2 rh _ hi => ?_, fun h2 H2 i v H3 q2 rh _ _ y => ?_, fun h2 H2 q2 rh _ => ?_⟩ q⟩
      · rw [zpD_len, len] at hi
        have s2 := (Stp.mo r' q2).t _ _ sq
        have lu := ru.length
        exact ⟨us, us[i]'(by omega), z.cps[i]'(by omega), s2, List.getElem?_eq_getElem _, by simp⟩
      · obtain ⟨T, x, c, rfl, nT, rfl, hx, hcx⟩ := y
        have s2 := (Stp.mo r' q2).t _ _ sq
        have r2 := RepVs.mono (Stp.mo r' q2) _ ru
        obtain ⟨d, ed, rd⟩ := P2.get' r2.pair (hx us s2)
        have okc : okS ⟨#[c]⟩ := by
          have := ok.2
          refine ⟨by show 1 ≤ sizeLine; decide, ?_⟩
          unfold PyData.strOk at this ⊢
          rw [Array.all_eq_true] at this
          obtain ⟨hl, e⟩ := Array.getElem?_eq_some_iff.mp hcx
          have h2 := this i hl
          rw [e] at h2
          simpa using h2
        obtain ⟨p1, p2, p3⟩ := pair_rep (e := .str ⟨#[c]⟩) (y := .str ⟨#[c]⟩) rh nT rd ⟨rfl, okc⟩
        exact ⟨_, zpD_get _ _ _ _ _ ed (sg i c hcx), p1, p2, p3⟩
      · have s2 := (Stp.mo r' q2).t _ _ sq
        refine ⟨us, s2, ?_, ?_, ?_⟩ <;> rw [zpD_len, len, ru.length] <;> omega
    · exact q.elim⟩
end DL
namespace DL
open PySem PySem.Spec PyProof.Rows L2
/-! ### text.split(sep), text.split(); list.index -/
def okSB (x : Str) : Bool := decide (x.length ≤ sizeLine) && PyData.strOk x
theorem okSB_ok {x : Str} (h : okSB x = true) : okS x := by
  unfold okSB at h
  rw [Bool.and_eq_true] at h
  exact ⟨of_decide_eq_true h.1, h.2⟩
def newStrs (ys : List Str) (h : MH) (Q : KD) : Prop := ys.all okSB = true ∧ ∀ p, h p = none → Q (.ref p) (up h p (.lst (ys.map D.str)))
theorem newStrs_low {K : KW} {ys : List Str} {h : MH} {H : Hp} {Q : KD} {QV : VK} (hH : RepH K h H) (q : newStrs ys h Q) (hc : Cl K h H Q QV) : rNewStrs ys H QV := fun p np => by
  have rep : ∀ {l : List Str}, l.all okSB = true → RepVs K H (l.map D.str) (l.map V.str) := by
    intro l
    induction l with
    | nil => exact fun _ => .nil
    | cons x r ih =>
      intro hl
      rw [List.all_cons, Bool.and_eq_true] at hl
      exact .cons ⟨rfl, okSB_ok hl.1⟩ (ih hl.2)
  exact hc.new hH np (rep q.1) (q.2 p (hH.nofresh np))
def splitD (x y : D) (h : MH) (Q : KD) : Prop := match x, y with
  | .str a, .str b => (b.length == 0) = false ∧ a.length + 2 ≤ sizeLine ∧ newStrs (Txt.split a b) h Q
  | _, _ => False
def dSplit (to te : E1) : E1 := fun σ h Q => to σ h fun x h1 => (∃ z, x = .str z) ∧ te σ h1 fun y h2 => splitD x y h2 Q
def wordsD (x : D) (h : MH) (Q : KD) : Prop := match x with
  | .str a => a.length + 2 ≤ sizeLine ∧ newStrs (Txt.words a) h Q
  | _ => False
def indexD : M1 := fun x ds h Q => match x, ds with
  | .ref a, [y] => lstK (fun xs => pure? 60 y = true ∧ pures? 60 xs = true ∧ ∃ (j : Nat) (z : D), xs[j]? = some z ∧ eqF z y = true ∧ (∀ (m : Nat) (z' : D), m < j → xs[m]? = some z' → eqF z' y = false) ∧ Q (.int (j : Nat)) h) (h a)
  | _, _ => False
theorem pds_get : ∀ (ds : List D) (j : Nat), (pds ds)[j]? = (ds[j]?).map pd
  | [], j => by simp [pds]
  | d :: ds, 0 => by simp [pds]
  | d :: ds, j + 1 => by simp only [pds, List.getElem?_cons_succ]; exact pds_get ds j
section
variable {X : Cx}
theorem de_split {o e : Expr} {to te : E1} {apos pos : Pos} (ho : DE X o to) (he : DE X e te) (hs : starEach [e] X.env = [(false, eval e X.env)] := by rfl) (hbase : attributeBase o "split" X.env (eval o X.env) = eval o X.env := by rfl) (hline : (apos.endLine == pos.line) = true := by rfl) :
    DE X (.Call (.Attribute o "split" apos) [e] [] pos) (dSplit to te) :=
  weakE (pe_split ho he hs hbase hline) fun σV H QV ⟨σ, h, Q, hE, hH, ht, hc⟩ => by
    refine ⟨σ, h, _, hE, hH, ht, fun x h1 v H1 s1 hH1 r1 q => ?_⟩
    obtain ⟨⟨z, rfl⟩, q⟩ := q
    obtain ⟨rfl, oz⟩ := r1
    refine ⟨⟨z, rfl⟩, σ, h1, _, hE.mono (Stp.mo hH s1), hH1, q, fun y h2 u H2 s2 hH2 r2 q2 => ?_⟩
    cases y with
    | str b =>
      obtain ⟨rfl, ob⟩ := r2
      have q2 : (b.length == 0) = false ∧ z.length + 2 ≤ sizeLine ∧ newStrs (Txt.split z b) h2 Q := q2
      exact ⟨z, b, rfl, rfl, q2.1, q2.2.1, newStrs_low hH2 q2.2.2 (hc.step (s1.trans s2))⟩
    | _ => exact (show False from q2).elim
theorem de_words {o : Expr} {to : E1} {apos pos : Pos} (ho : DE X o to) (hbase : attributeBase o "split" X.env (eval o X.env) = eval o X.env := by rfl) (hline : (apos.endLine == pos.line) = true := by rfl) :
    DE X (.Call (.Attribute o "split" apos) [] [] pos) (dUn wordsD to) :=
  weakE (pe_words ho hbase hline) fun σV H QV ⟨σ, h, Q, hE, hH, ht, hc⟩ => by
    refine ⟨σ, h, _, hE, hH, ht, fun x h1 v H1 s1 hH1 r1 q => ?_⟩
    cases x with
    | str z =>
      obtain ⟨rfl, oz⟩ := r1
      have q : z.length + 2 ≤ sizeLine ∧ newStrs (Txt.words z) h1 Q := q
      exact ⟨⟨z, rfl⟩, z, rfl, rfl, q.1, newStrs_low hH1 q.2 (hc.step s1)⟩
    | _ => exact (show False from q).elim
theorem xm_index (hu : X.A.units + 65 < cLine) : MtR X "list.index" (lowM X.kw indexD) := mtR_of fun x vs H QV ⟨d, ds, h, Q, rx, rv, hH, hr, hc⟩ => by
  unfold indexD at hr
  split at hr
  · rename_i a y
    obtain ⟨xs, eh, p1, p2, j, z, hz, e1, no, q⟩ := lstK_inv hr
    cases (show x = _ from rx)
    obtain ⟨v, rfl, r1⟩ := rep1 rv
    obtain ⟨us, eH, ru⟩ := hH a _ eh
    obtain ⟨a1, b1⟩ := dp_of r1 p1
    obtain ⟨a2, b2, _⟩ := dps_of ru p2
    refine ⟨_, mt_indexD hu, a, v, pd y, pds xs, j, pd z, rfl, rfl, .lst (SqL.of eH) a2, a1, b2, b1, by rw [pds_get, hz]; rfl, e1, fun m z' hm hz' => ?_, hc.val hH (d := .int (j : Nat)) rfl q⟩
    rw [pds_get] at hz'
    obtain ⟨w, ew, rfl⟩ := Option.map_eq_some_iff.mp hz'
    exact no m w hm ew
  · exact hr.elim
end
end DL
namespace DL
open PySem PySem.Spec PyProof.Rows PySem.W PySem.Calls PySem.SeqAt
/-! sorting a row of tuples whose first one is empty -/
section
variable {prog : Program} {w : World} {A : Around} {E : Value → Shared → Prop} {s : Shared}
theorem call_tuple_lt {Q : Value → Shared → Prop} {l b : Addr} {items items2 : Array Value} {e r : Nat → Bool} (hl : s.heap.IsTuple l items) (hb : s.heap.IsTuple b items2)
    (he : ∀ j (h1 : j < items.size) (h2 : j < items2.size), EqAt A.in1 s items[j] items2[j] (e j)) (hr : ∀ j (h1 : j < items.size) (h2 : j < items2.size), e j = false → RcLt A.in1 s items[j] items2[j] (r j))
    (h : Q (.bool (firstLt e r (decide (items.size < items2.size)) (List.range (min items.size items2.size)))) s) : wpAny (model prog w) A (call (.builtin "tuple.__lt__") [.ref l, .ref b]) Q E s := by
  obtain ⟨⟨cls, dd, data, sl⟩, ho, hc, n, hd⟩ := id hl
  obtain ⟨⟨cls2, dd2, data2, sl2⟩, ho2, hc2, n2, hd2⟩ := id hb
  simp only at hc hd hc2 hd2
  subst hc hd hc2 hd2
  exact call_meets F.slot_tuple_lt ⟨_, ho, rfl⟩ F.entry_tuple_lt (F.args_tuple_lt_2 _ _) (tuple_ltAt l b items items2 n n2 dd dd2 sl sl2 e r) ⟨ho, ho2, he, hr, h⟩
theorem oneLt_tup {xs ys : List PyData} {a b : Value} {as bs : List Addr} {Q : Bool → Shared → Prop} (ra : Reads s.heap a (.tuple xs) as) (rb : Reads s.heap b (.tuple ys) bs) (h : PySem.W.alike (.tuple xs) (.tuple ys) = true)
    (hu : A.units + min (PyData.depth (.tuple xs)) (PyData.depth (.tuple ys)) < cLine) (hq : Q (dataLt (.tuple xs) (.tuple ys)) s) : wpAny (model prog w) A (oneLt' true a b) Q E s := by
  have hal : alikeAll xs ys = true := by simpa [PySem.W.alike] using h
  cases ra with
  | @tuple l o vs n _ as₁ h1 h2 h3 h4 =>
    cases rb with
    | @tuple l' o' vs' n' _ bs₁ k1 k2 k3 k4 =>
      have n1 : vs.size = xs.length := by simpa using SeqAt.ReadsAll.length _ _ _ h4
      have n2 : vs'.size = ys.length := by simpa using SeqAt.ReadsAll.length _ _ _ k4
      rw [dataLt_tuple, ← firstLt_toks xs ys hal, ← n1, ← n2] at hq
      rw [oneLt'_eq]
      simp only [if_true]
      refine wpAny_bind (wpAny_cRoomFor (SeqAt.room_here hu) ?_)
      refine wpAny_bind (wpAny_callSpecialIfBound?_slot (T := "tuple") ⟨_, h1, h2⟩ F.slot_tuple_lt (call_tuple_lt (e := pairEq xs ys) (r := fun j => dataLt (xs.getD j .none) (ys.getD j .none)) ⟨_, h1, h2, _, h3⟩ ⟨_, k1, k2, _, k3⟩ (fun j j1 j2 => ?_) (fun j j1 j2 hj => ?_) ?_))
      · have := eqAt_alikeAll xs ys A.in1 s vs.toList vs'.toList _ _ h4 k4 hal (SeqAt.room_in hu) j (by simpa using j1) (by simpa using j2)
        simpa using this
      · have := rcLt_alikeAll xs ys A.in1 s vs.toList vs'.toList _ _ h4 k4 hal (SeqAt.room_in hu) j (by simpa using j1) (by simpa using j2) hj
        simpa using this
      · exact wpAny_truthy_bool hq
/-- the first parts of a row of tuples -/
theorem firsts_any : ∀ (vs : List Value) (ds : List PyData) {Q : List (Option Value) → Shared → Prop}, EachIs (fun v d => ∃ as, Reads s.heap v d as) vs ds → (∀ d, d ∈ ds → ∃ xs, d = .tuple xs) →
    (∀ fs, fs.length = vs.length → (ds.head? = some (.tuple []) → fs.head? = some none) → Q fs s) → wpAny (model prog w) A (vs.mapM firstOfTuple') Q E s
  | [], [], _, _, _, h => by rw [List.mapM_nil]; exact wpAny_pure (h [] rfl fun e => by cases e)
  | v :: vs, d :: ds, Q, .cons ⟨as, r⟩ t, ht, h => by
    obtain ⟨xs, rfl⟩ := ht d (by simp)
    cases r with
    | @tuple a o vs1 n _ _ ho hc hd hr =>
      rw [List.mapM_cons]
      refine wpAny_bind ?_
      rw [kas_first_eq]
      refine wpAny_bind (Looks.here (show Looks (model prog w) s.heap (typeOf (.ref a)) o.cls from (Looks.ld ho).andThen .now) ?_)
      rw [hc, if_neg (by first | decide | simp)]
      refine wpAny_bind (listItems_at ho hd (wpAny_pure ?_))
      refine wpAny_bind (firsts_any vs ds t (fun d hd => ht d (by simp [hd])) fun fs hl _ => wpAny_pure (h _ (by simp [hl]) fun e => ?_))
      simp only [List.head?_cons, Option.some.injEq, PyData.tuple.injEq] at e
      subst e
      have : vs1.size = 0 := by simpa using SeqAt.ReadsAll.length _ _ _ hr
      rw [List.head?_cons]
      simp [this]
theorem kind_first0 {vs : List Value} {ds : List PyData} {Q : SortKind → Shared → Prop} (e : EachIs (fun v d => ∃ as, Reads s.heap v d as) vs (.tuple [] :: ds)) (ht : ∀ d, d ∈ ds → ∃ xs, d = .tuple xs) (h : Q oneType' s) :
    wpAny (model prog w) A (keyKind' vs.toArray) Q E s := by
  have ht' : ∀ d, d ∈ (.tuple [] :: ds : List PyData) → ∃ xs, d = .tuple xs := fun d hd => by
    rcases List.mem_cons.mp hd with rfl | hd
    · exact ⟨_, rfl⟩
    · exact ht d hd
  have hT : ∀ v ∈ vs, Looks (model prog w) s.heap (typeOf v) (.type "tuple") := fun v hv => by
    obtain ⟨d, hd, as, r⟩ := e.left v hv
    obtain ⟨xs, rfl⟩ := ht' d hd
    exact looks_reads r
  obtain ⟨v₁, rest, rfl⟩ : ∃ v₁ rest, vs = v₁ :: rest := by
    cases e with
    | cons _ _ => exact ⟨_, _, rfl⟩
  rw [keyKind'_eq, List.mapM_toArray, map_eq_pure_bind]
  refine wpAny_bind (wpAny_bind (firsts_any _ _ e ht' fun fs hl hf => wpAny_pure ?_))
  have hf := hf rfl
  cases fs with
  | nil => cases hf
  | cons f0 fr =>
    cases hf
    rw [if_neg (by simp), if_neg (by simp)]
    rw [oneTypeOnly'_eq, List.mapM_toArray, map_eq_pure_bind]
    refine wpAny_bind (wpAny_bind (wpAny_bind (kas_mapM (r := Value.type "tuple") _ (fun v hv Q' hq => (hT v hv).here hq) (wpAny_pure ?_))))
    have hall : ((List.map (fun _ => Value.type "tuple") (v₁ :: rest)).toArray.all fun x => x == Value.type "tuple") = true := by
      simp only [List.all_toArray, List.all_map, List.all_eq_true]
      intro _ _
      rfl
    have h0 : (List.map (fun _ => Value.type "tuple") (v₁ :: rest)).toArray[0]? = some (Value.type "tuple") := by simp
    rw [h0]
    simp only [hall, if_true]
    exact wpAny_pure (wpAny_pure h)
theorem sorts_first0 {vs : List Value} {ds : List PyData} (e : EachIs (fun v d => ∃ as, Reads s.heap v d as) vs (.tuple [] :: ds)) (hal : AllAlike (.tuple [] :: ds)) (ht : ∀ d, d ∈ ds → ∃ xs, d = .tuple xs) (hu : ∀ d, d ∈ (.tuple [] :: ds : List PyData) → A.units + d.depth < cLine) :
    SortsAt prog w A s (dataKind s.heap (.tuple [] :: ds)) vs := by
  have ht' : ∀ d, d ∈ (.tuple [] :: ds : List PyData) → ∃ xs, d = .tuple xs := fun d hd => by
    rcases List.mem_cons.mp hd with rfl | hd
    · exact ⟨_, rfl⟩
    · exact ht d hd
  refine ⟨fun v hv => ?_, oneType', ?_, fun h2 E Q hq => kind_first0 e ht hq⟩
  · obtain ⟨d, hd, as, r⟩ := e.left v hv
    exact ⟨_, dataKind_some hal hd r⟩
  · intro E x y a b Q ha hb hq
    obtain ⟨d, as, hd, ra, rfl⟩ := dataKind_inv ha
    obtain ⟨d', as', hd', rb, rfl⟩ := dataKind_inv hb
    rw [keyLt'_oneType]
    have hdd := hal d hd d' hd'
    have hroom : A.units + min d.depth d'.depth < cLine := Nat.lt_of_le_of_lt (Nat.add_le_add_left (Nat.min_le_left _ _) _) (hu d hd)
    obtain ⟨xs, rfl⟩ := ht' d hd
    obtain ⟨ys, rfl⟩ := ht' d' hd'
    exact oneLt_tup ra rb hdd hroom hq
end
end DL
namespace DL
open PySem PySem.Spec PyProof.Rows L2
/-! sorted(x): a list, a tuple, a dict with scalar keys; things of one kind, any number -/
def leK (x y : D) : Bool := !PySem.W.dataLt (pd y) (pd x)
def alikeB (ds : List D) : Bool := ds.all fun x => ds.all fun y => PySem.W.alike (pd x) (pd y)
def isTup1 : D → Bool
  | .tup (_ :: _) => true
  | _ => false
def notTN : D → Bool
  | .tup _ => false
  | .none => false
  | _ => true
def sortsB (ds : List D) : Bool := ds.all isTup1 || ds.all notTN
def isTupD : D → Bool
  | .tup _ => true
  | _ => false
/-- tuples, the first one empty -/
def first0 : List D → Bool
  | .tup [] :: r => r.all isTupD
  | _ => false
def sortsC (ds : List D) : Bool := sortsB ds || first0 ds
theorem sortsC_of {ds : List D} (h : sortsB ds = true) : sortsC ds = true := by unfold sortsC; rw [h]; rfl
theorem first0_of {ds : List D} (h : first0 ds = true) : ∃ r, ds = .tup [] :: r ∧ r.all isTupD = true := by
  unfold first0 at h
  split at h
  · exact ⟨_, rfl, h⟩
  · cases h
def sortK (ds : List D) (h : MH) (Q : KD) : Prop := pures? 50 ds = true ∧ alikeB ds = true ∧ sortsC ds = true ∧ ds.length ≤ sizeLine ∧ ∀ (ys : List D) (p : Addr), ys.Perm ds → ys.Pairwise (fun a b => leK a b = true) → h p = none → Q (.ref p) (up h p (.lst ys))
def sortO (h : MH) (Q : KD) : Option MO → Prop
  | some (.lst ds) => sortK ds h Q
  | some (.dic kvs) => sortK (kvs.map (·.1)) h Q
  | _ => False
def sortedD (x : D) (h : MH) (Q : KD) : Prop := match x with
  | .tup ds => sortK ds h Q
  | .rol ds => sortK ds h Q
  | .ref a => sortO h Q (h a)
  | _ => False
theorem mem_pds {x : PyData} : ∀ {ds : List D}, x ∈ pds ds → ∃ d, d ∈ ds ∧ x = pd d
  | [], h => by simp [pds] at h
  | d :: ds, h => by
    simp only [pds, List.mem_cons] at h
    rcases h with rfl | h
    · exact ⟨d, by simp, rfl⟩
    · obtain ⟨e, h1, h2⟩ := mem_pds h
      exact ⟨e, by simp [h1], h2⟩
theorem pd_mem {d : D} : ∀ {ds : List D}, d ∈ ds → pd d ∈ pds ds
  | [], h => by simp at h
  | e :: ds, h => by
    simp only [pds, List.mem_cons]
    rcases List.mem_cons.mp h with rfl | h
    · exact .inl rfl
    · exact .inr (pd_mem h)
section
variable {ds : List D}
theorem allAlike (h : alikeB ds = true) : PySem.W.AllAlike (pds ds) := by
  intro x hx y hy
  obtain ⟨d, hd, rfl⟩ := mem_pds hx
  obtain ⟨e, he, rfl⟩ := mem_pds hy
  unfold alikeB at h
  rw [List.all_eq_true] at h
  have := h d hd
  rw [List.all_eq_true] at this
  exact this e he
theorem sortable {n : Nat} (pu : pures? n ds = true) (h : sortsB ds = true) : PySem.W.Sortable (pds ds) := by
  unfold sortsB at h
  rw [Bool.or_eq_true, List.all_eq_true, List.all_eq_true] at h
  rcases h with h | h
  · left
    intro x hx
    obtain ⟨d, hd, rfl⟩ := mem_pds hx
    have := h d hd
    cases d with
    | tup xs =>
      cases xs with
      | nil => cases this
      | cons y r => exact ⟨pd y, pds r, by simp [pd, pds]⟩
    | _ => cases this
  · right
    intro x hx
    obtain ⟨d, hd, rfl⟩ := mem_pds hx
    have := h d hd
    refine ⟨?_, ?_⟩
    · cases d with
      | none => cases this
      | tup xs => cases this
      | ref _ => rw [pures_all, List.all_eq_true] at pu; have := pu _ hd; simp [pure?] at this
      | ty _ => rw [pures_all, List.all_eq_true] at pu; have := pu _ hd; simp [pure?] at this
      | _ => intro e; simp [pd] at e
    · intro xs
      cases d with
      | none => cases this
      | tup xs => cases this
      | _ => intro e; simp [pd] at e
end
theorem pures_up : ∀ {n m : Nat}, n ≤ m → ∀ ds : List D, pures? n ds = true → pures? m ds = true := by
  have one : ∀ (n m : Nat), n ≤ m → ∀ x : D, pure? n x = true → pure? m x = true := by
    intro n
    induction n with
    | zero =>
      intro m _ x h
      cases x <;> simp_all [pure?]
    | succ n ih =>
      intro m hm x h
      cases m with
      | zero => omega
      | succ m =>
        cases x with
        | tup xs =>
          simp only [pure?, pures_all, List.all_eq_true] at h ⊢
          exact fun y hy => ih m (by omega) y (h y hy)
        | rol xs =>
          simp only [pure?, pures_all, List.all_eq_true] at h ⊢
          exact fun y hy => ih m (by omega) y (h y hy)
        | _ => simp_all [pure?]
  intro n m h ds p
  rw [pures_all, List.all_eq_true] at p ⊢
  exact fun x hx => one n m h x (p x hx)
section
variable {X : Cx} {pins : List (Addr × Obj)} {σ : L2.St} {H : Hp}
theorem each_of {K : KW} {H : Hp} : ∀ {ds : List D} {vs : List V} {us : List Value}, RepVs K H ds vs → Vals vs us → PySem.W.EachIs (fun u d => ∃ v, RelV v u ∧ RepV K H d v) us ds
  | [], _, _, r, q => by
    cases (show _ = [] from r)
    cases q; exact .nil
  | d :: ds, _, _, r, q => by
    obtain ⟨v, w, rfl, r1, r2⟩ := r
    cases q with
    | cons a b => exact .cons ⟨v, a, r1⟩ (each_of r2 b)
theorem each_back {K : KW} {H : Hp} : ∀ {ds : List D} {us : List Value}, PySem.W.EachIs (fun u d => ∃ v, RelV v u ∧ RepV K H d v) us ds → ∃ vs, RepVs K H ds vs ∧ Vals vs us
  | _, _, .nil => ⟨[], rfl, .nil⟩
  | _, _, .cons ⟨v, a, b⟩ t => by
    obtain ⟨vs, h1, h2⟩ := each_back t
    exact ⟨v :: vs, .cons b h1, .cons a h2⟩
theorem each_reads {s : Shared} (I : Inv X pins σ H s) {n : Nat} : ∀ {ds : List D} {vs : List V} {us : List Value}, pures? n ds = true → RepVs X.kw H ds vs → Vals vs us → PySem.W.EachIs (fun u d => ∃ as, Reads s.heap u (pd d) as) us ds
  | [], _, _, _, r, q => by
    cases (show _ = [] from r)
    cases q; exact .nil
  | d :: ds, _, _, p, r, q => by
    obtain ⟨v, w, rfl, r1, r2⟩ := r
    have p' : pure? n d = true ∧ pures? n ds = true := by simpa [pures?] using p
    cases q with
    | cons a b => exact .cons (Dp.reads I (pd d) v _ (pd_dp n d v p'.1 r1).1 a) (each_reads I p'.2 r2 b)
theorem each_pds {R : Value → PyData → Prop} : ∀ {us : List Value} {ds : List D}, PySem.W.EachIs (fun u d => R u (pd d)) us ds → PySem.W.EachIs R us (pds ds)
  | _, _, .nil => by simp only [pds]; exact .nil
  | _, _, .cons a t => by simp only [pds]; exact .cons a (each_pds t)
theorem each_mem {R R' : Value → D → Prop} : ∀ {us : List Value} {ds : List D}, PySem.W.EachIs R us ds → (∀ u d, d ∈ ds → R u d → R' u d) → PySem.W.EachIs R' us ds
  | _, _, .nil, _ => .nil
  | _, _, .cons a t, h => .cons (h _ _ (by simp) a) (each_mem t fun u d hd => h u d (by simp [hd]))
/-- what is collected is sorted -/
theorem sort_from {h : MH} {ds : List D} {u : Value} {vs : List V} {s : Shared} {Q : KD} {QV : VK} (hu : X.A.units + 64 < cLine) (I : Inv X pins σ H s) (hH : RepH X.kw h H) (r : RepVs X.kw H ds vs) (k : sortK ds h Q) (hc : Cl X.kw h H Q QV)
    (hcol : ∀ R : List Value → Shared → Prop, (∀ (h' : Heap) (tk : Nat) (us : List Value), (∀ b o, s.heap.get? b = some o → h'.get? b = some o) → Vals vs us → R us { s with heap := h', toks := tk }) → wpAny (model X.prog X.w) X.A.in1 (collect u) R X.xe s) :
    wpAny (model X.prog X.w) X.A (call (.builtin "sorted") [u]) (EP X pins σ QV) X.xe s := by
  obtain ⟨pu, al, so, hz, k⟩ := k
  refine Calls.call_function_entry PyProof.Rows.kind_sorted PyProof.Rows.plain_sorted PyProof.Rows.entry_sorted (PyProof.Rows.args_sorted1 _) ?_
  unfold Builtin.«sorted»
  refine wpAny_bind (m := checkCount "sorted" 1 1 _) (wpAny_pure ?_)
  refine wpAny_bind (hcol _ fun h' tk us keep hv => ?_)
  have I1 : Inv X pins σ H { s with heap := h', toks := tk } := I.kept keep
  have hlen : us.length = ds.length := by rw [← hv.length, r.length]
  refine wpAny_bind (wpAny_newList ?_ (by rw [hlen]; exact hz))
  have hoL : (h'.push (seqObj "list" us.toArray 0)).get? h'.objs.size = some (seqObj "list" us.toArray 0) := Heap.get?_push_size _ rfl
  show wpAny _ _ _ _ _ { s with heap := h'.push (seqObj "list" us.toArray 0), toks := tk }
  have keep2 : ∀ b o, h'.get? b = some o → (PySem.W.sortingHeap (h'.push (seqObj "list" us.toArray 0)) h'.objs.size us).get? b = some o := fun b o e => by
    exact PySem.W.sortingHeap_old (Nat.ne_of_lt (Heap.lt_size e)) (Heap.get?_push_of_some _ e)
  have I2 : Inv X pins σ H { s with heap := PySem.W.sortingHeap (h'.push (seqObj "list" us.toArray 0)) h'.objs.size us, toks := tk } := I.kept (fun b o e => keep2 b o (keep b o e))
  have rd : PySem.W.EachIs (fun v d => ∃ as, Reads (PySem.W.sortingHeap (h'.push (seqObj "list" us.toArray 0)) h'.objs.size us) v d as) us (pds ds) := each_pds (each_reads I2 pu r hv)
  have deep : ∀ d, d ∈ pds ds → X.A.in1.in1.units + d.depth < cLine := fun d hd => by
    obtain ⟨e, he, rfl⟩ := mem_pds hd
    have hp := pu
    rw [pures_all, List.all_eq_true] at hp
    have := pd_depth 50 e (hp e he)
    simp only [Around.in1_units]
    omega
  have S : PySem.W.SortsAt X.prog X.w X.A.in1.in1 { s with heap := PySem.W.sortingHeap (h'.push (seqObj "list" us.toArray 0)) h'.objs.size us, toks := tk } (PySem.W.dataKind (PySem.W.sortingHeap (h'.push (seqObj "list" us.toArray 0)) h'.objs.size us) (pds ds)) us := by
    unfold sortsC at so
    rw [Bool.or_eq_true] at so
    rcases so with so | so
    · exact PySem.W.SortsAt.data rd (allAlike al) (sortable pu so) deep
    · obtain ⟨r0, e0, hr0⟩ := first0_of so
      have ep : pds ds = .tuple [] :: pds r0 := by rw [e0]; simp [pds, pd]
      have hal := allAlike al
      rw [ep] at rd hal deep ⊢
      refine sorts_first0 rd hal (fun d hd => ?_) deep
      obtain ⟨e, he, rfl⟩ := mem_pds hd
      rw [List.all_eq_true] at hr0
      have := hr0 e he
      cases e with
      | tup xs => exact ⟨_, by simp [pd]; rfl⟩
      | _ => cases this
  have ev := PySem.W.sortVals_each (κ := PySem.W.dataKind (PySem.W.sortingHeap (h'.push (seqObj "list" us.toArray 0)) h'.objs.size us) (pds ds)) (rev := false) (fun d : D => PySem.W.keyToks (pd d)) (each_of r hv) (ks := us) ?_
  · obtain ⟨vs', r', v'⟩ := each_back ev
    refine wpAny_bind (wpAny_holding (wpAny_call_entry PyProof.Rows.slot_list_sort ⟨_, hoL, rfl⟩ PyProof.Rows.entry_list_sort
      (PySem.W.list_sort_vals (s := { s with heap := h'.push (seqObj "list" us.toArray 0), toks := tk }) hoL S (by rw [hlen]; exact hz) ⟨_, rfl, ?_⟩) (PyProof.Rows.args_list_sort _)))
    obtain ⟨e', he'⟩ := PyProof.Rows.sortedHeap_at (vs := us) (out := (PySem.W.sortVals (PySem.W.dataKind (PySem.W.sortingHeap (h'.push (seqObj "list" us.toArray 0)) h'.objs.size us) (pds ds)) false us us).toArray) hoL
    have np : H h'.objs.size = none := I1.hok.fresh (Nat.le_refl _)
    have perm : (ds.mergeSort (PySem.W.sortLe (PySem.W.dataKind (PySem.W.sortingHeap (h'.push (seqObj "list" us.toArray 0)) h'.objs.size us) (pds ds)).toKeyOrd false fun d : D => PySem.W.keyToks (pd d))).Perm ds := List.mergeSort_perm _ _
    have srt := PySem.W.sort_pairwise (PySem.W.sortLe_total (PySem.W.dataKind (PySem.W.sortingHeap (h'.push (seqObj "list" us.toArray 0)) h'.objs.size us) (pds ds)).toKeyOrd false fun d : D => PySem.W.keyToks (pd d)) ds
    have hlen2 : vs'.length ≤ sizeLine := by rw [← r'.length, perm.length_eq]; exact hz
    refine wpAny_pure ⟨_, rfl, .ref h'.objs.size, upd H h'.objs.size (.lst vs'), I1.laid (t' := tk) (fun b u e => ?_) (Nat.le_refl _)
      (show ObjOk X.prog X.w _ _ _ (.lst vs') from ⟨hlen2, _, e', v', he'⟩), rfl, ?_⟩
    · have hb : b < h'.objs.size := Heap.lt_size e
      rw [PyProof.Rows.sortedHeap_old (Nat.ne_of_lt hb) (by rw [size_push']; exact Nat.lt_succ_of_lt hb)]
      exact Heap.get?_push_of_some _ e
    · exact hc.new hH np r' (k _ _ perm srt (hH.nofresh np))
  · exact each_mem (each_reads I2 pu r hv) fun u d hd ⟨as, q⟩ => PySem.W.dataKind_some (allAlike al) (pd_mem hd) q
theorem collect_tup {prog : Program} {w : World} {A : Around} {E : Value → Shared → Prop} {s : Shared} {l : Addr} {vs : List Value} {Q : List Value → Shared → Prop} (hl : s.heap.IsTuple l vs.toArray)
    (h : Q vs { s with heap := (s.heap.push (seqObj "list" #[] 0)).update s.heap.objs.size (Obj.mapSeq (· ++ vs.toArray)) }) (hsz : vs.length ≤ sizeLine) :
    wpAny (model prog w) A (collect (.ref l)) Q E s := by
  obtain ⟨o, ho, hc, n, hd⟩ := id hl
  unfold collect
  refine wpAny_bind (wpAny_runValue (codeAny_builtin entry_proto_collect' ?_))
  show wpAny _ _ (do again (.builtin "list.__iadd__" ⟨[← newList [], .ref l], []⟩)) _ _ s
  refine wpAny_bind (wpAny_newList (wpAny_pure ⟨Code.quiet_builtin _ (by decide +kernel), codeAny_builtin entry_list_iadd' ?_⟩))
  show wpAny _ _ (Builtin.List.listExtendWith (.ref s.heap.objs.size) (.ref l) (.ref s.heap.objs.size)) _ _ { s with heap := s.heap.push (seqObj "list" #[] 0) }
  unfold Builtin.List.listExtendWith
  have ho' : (s.heap.push (seqObj "list" #[] 0)).get? l = some o := Heap.get?_push_of_some _ ho
  refine wpAny_bind (wpAny_typeOf (T := "tuple") ⟨o, ho', hc⟩ ?_)
  have ht : (Value.type "tuple" == Value.type "tuple") = true := by rfl
  rw [if_pos (by rw [ht]; simp)]
  refine wpAny_bind (listItems_at ho' hd ?_)
  refine wpAny_bind (listItems_at (xs := #[]) (n := 0) (Heap.get?_push_size _ rfl) rfl ?_)
  rw [if_neg (by simp)]
  refine wpAny_bind (listUpdate_at (xs := #[]) (n := 0) (Heap.get?_push_size _ rfl) rfl ?_ (Nat.zero_le _) (by show (#[] ++ vs.toArray).size ≤ sizeLine + 1; simp only [Array.size_append, List.size_toArray, List.length_nil]; omega))
  refine wpAny_pure ?_
  show wpAny (model prog w) A (do
      let o ← load s.heap.objs.size
      match o.data with
      | .seq xs _ => pure xs.toList
      | _ => unsupported "internal:collect") Q E { s with heap := (s.heap.push (seqObj "list" #[] 0)).update s.heap.objs.size (Obj.mapSeq (· ++ vs.toArray)) }
  refine wpAny_bind (wpAny_load (get?_update_seq (Heap.get?_push_size _ rfl) _) ?_)
  show wpAny _ _ (pure ((#[] : Array Value) ++ vs.toArray).toList) Q E _
  rw [show ((#[] : Array Value) ++ vs.toArray).toList = vs by simp]
  exact wpAny_pure h
theorem keep_coll {h : Heap} {us : List Value} {b : Addr} {o : Obj} (e : h.get? b = some o) : ((h.push (seqObj "list" #[] 0)).update h.objs.size (Obj.mapSeq (· ++ us.toArray))).get? b = some o := by
  rw [Heap.get?_update_ne _ _ _ _ (Nat.ne_of_lt (Heap.lt_size e))]
  exact Heap.get?_push_of_some _ e
theorem keys_vals {ks : List L2.Key} {acc : List Value} (hl : acc.length = ks.length) (h : ∀ (j : Nat) (v : Value), acc[j]? = some v → ∃ k, ks[j]? = some k ∧ keyIs k v = true) : Vals (ks.map kV) acc := by
  induction ks generalizing acc with
  | nil =>
    have : acc = [] := List.eq_nil_of_length_eq_zero hl
    subst this; exact .nil
  | cons p r ih =>
    cases acc with
    | nil => simp at hl
    | cons v t =>
      refine .cons ?_ (ih (by simpa using hl) fun j u e => by simpa using h (j + 1) u (by simpa using e))
      obtain ⟨k, e1, e2⟩ := h 0 v rfl
      have e1 : p = k := by simpa using e1
      subst e1
      rcases keyIs_shape e2 with ⟨i, t, ek, ev⟩ | ⟨z, t, ek, ev⟩
      · cases ek; exact ⟨t, ev⟩
      · cases ek; exact ⟨t, ev⟩
theorem reps_keys {K : KW} {H : Hp} {kvs : Kvs} {kv : List (L2.Key × V)} (r : RepKs K H kvs kv) : RepVs K H (kvs.map (·.1)) ((kv.map (·.1)).map kV) := by
  induction r with
  | nil => exact .nil
  | cons h _ ih => exact .cons h.2.1 ih
theorem reps_keysN {K : KW} {H : Hp} {kvs : Kvs} {xs : List Ent} (r : RepNs K H kvs xs) : RepVs K H (kvs.map (·.1)) (xs.map (·.2.1)) := by
  induction r with
  | nil => exact .nil
  | cons h _ ih => exact .cons h.2.1 ih
theorem ents_vals {w : World} {xs : List Ent} {l : List DictEntry} (p : Paired (entOk w) xs l) : ∀ {acc : List Value}, acc.length = l.length → (∀ (j : Nat) (v : Value), acc[j]? = some v → ∃ e, l[j]? = some e ∧ v = e.key) → Vals (xs.map (·.2.1)) acc := by
  induction p with
  | nil =>
    intro acc hl _
    have : acc = [] := List.eq_nil_of_length_eq_zero hl
    subst this; exact .nil
  | @cons x e xs l q t ih =>
    intro acc hl h
    cases acc with
    | nil => simp at hl
    | cons v r =>
      obtain ⟨e', e1, e2⟩ := h 0 v rfl
      cases e1
      exact .cons (by rw [e2]; exact q.2.1) (ih (by simpa using hl) fun j u eu => by simpa using h (j + 1) u (by simpa using eu))
theorem xd_sorted (hu : X.A.units + 64 < cLine) (hcalm : X.calm = true) : CallR X (.builtin "sorted") (lowC X.kw (on1 sortedD)) := by
  intro pins s σ H vs us QV I r0 ⟨ds0, h, Q, rv0, hH, hr, hc⟩
  obtain ⟨d, rfl, hr⟩ := on1_inv hr
  obtain ⟨x, rfl, rx⟩ := rep1 rv0
  obtain ⟨u, eu, ru⟩ := vals1 r0
  subst eu
  have lst : ∀ {a : Addr} {vs : List V} {ds : List D}, x = .ref a → SqL X.K H a vs → RepVs X.kw H ds vs → sortK ds h Q → wpAny (model X.prog X.w) X.A (call (.builtin "sorted") [u]) (EP X pins σ QV) X.xe s := by
    rintro a vs ds rfl sq rs k
    cases ru
    obtain ⟨its, rv, tp, hz⟩ := I.list sq
    exact sort_from hu I hH rs k hc fun R q => PyProof.Rows.collect_list tp.isList (q _ _ its (fun b o e => keep_coll e) rv) (by rw [← rv.length]; exact hz)
  cases d with
  | tup ds =>
    obtain ⟨a, vs, rfl, sq, rs⟩ := rx
    cases ru
    obtain ⟨its, rv, tp, hz⟩ := I.tuple sq
    exact sort_from hu I hH rs hr hc fun R q => collect_tup tp (q _ _ its (fun b o e => keep_coll e) rv) (by rw [← rv.length]; exact hz)
  | rol ds =>
    obtain ⟨a, vs, ex, sq, rs⟩ := rx
    exact lst ex sq.sq rs hr
  | ref a =>
    have ex : x = .ref a := rx
    have hr : sortO h Q (h a) := hr
    cases q : h a with
    | none => rw [q] at hr; exact hr.elim
    | some o =>
      rw [q] at hr
      cases o with
      | lst ds =>
        obtain ⟨vs, eH, rs⟩ := hH a _ q
        exact lst ex (SqL.of eH) rs hr
      | dic kvs =>
        have hk : sortK (kvs.map (·.1)) h Q := hr
        subst ex
        cases ru
        rcases hH a _ q with ⟨kv, e0, rk⟩ | ⟨xs, rn⟩
        · obtain ⟨z, lo, vs0, rel, dd⟩ := dk_of I.hok e0
          obtain ⟨ep, hat⟩ := dd.dictAt
          have hl : vs0.length = kv.length := by
            have e := congrArg List.length rel.keys
            rw [List.length_map, List.length_map] at e
            exact e.symm
          have h16 : vs0.length ≤ sizeLine := by rw [hl]; exact z
          refine sort_from hu I hH (reps_keys rk) hk hc fun R qq => PySem.W.kdu_collect (A := X.A.in1) (PySem.W.kdl_dict (knd := mixKind X.prog X.w) (kvs := vs0) (ep := ep) lo) (I.ok.hd hcalm) hat h16 fun h' tk acc hk hacc => qq h' tk acc.toList hk ?_
          rw [rel.keys]
          refine keys_vals (by rw [Array.length_toList, hacc.1, List.length_map]) fun j v e => ?_
          obtain ⟨k, x, e1, e2⟩ := hacc.2 j v (by rw [← Array.getElem?_toList]; exact e)
          exact ⟨k, by rw [List.getElem?_map, e1]; rfl, e2⟩
        · obtain ⟨⟨o, es, ep, e1, c1, d1, p⟩, _⟩ := (show ObjOk X.prog X.w H s.heap a (dobj X.w a xs) from I.hok a _ rn.at_)
          have hn : es.size = xs.length := by rw [← Array.length_toList]; exact p.length.symm
          have hkl : kvs.length = xs.length := rn.rep.length
          have h16 : es.size ≤ sizeLine := by rw [hn, ← hkl]; exact rn.len
          refine sort_from hu I hH (reps_keysN rn.rep) hk hc fun R qq => PySem.W.kdu_collect (A := X.A.in1) (KdlSrc.rawDict (es := es) (ep := ep) rn.low) (I.ok.hd hcalm) ⟨o, e1, c1, d1⟩ h16 fun h' tk acc hk hacc => qq h' tk acc.toList hk ?_
          refine ents_vals p (by rw [Array.length_toList, hacc.1, Array.length_toList]) fun j v e => ?_
          obtain ⟨hi, ev⟩ := hacc.2 j v (by rw [← Array.getElem?_toList]; exact e)
          exact ⟨es[j], by rw [Array.getElem?_toList]; exact Array.getElem?_eq_getElem hi, ev⟩
      | ins _ _ => exact hr.elim
      | fdic _ _ => exact hr.elim
  | _ => exact hr.elim
end
end DL
namespace DL
open PySem PySem.Spec PyProof.Rows L2
/-! xs[::-1] -/
section
variable {prog : Program} {w : World} {A : Around} {E : Value → Shared → Prop} {s : Shared}
theorem adjust_rev (n : Nat) : Builtin.Slice.sliceAdjust none none (-1) (n : Int) = ((n : Int) - 1, -1) := by
  unfold Builtin.Slice.sliceAdjust
  simp
theorem places_rev (n : Nat) : Builtin.Slice.slicePlaces ((n : Int) - 1) (-1) (-1) = n := by
  unfold Builtin.Slice.slicePlaces
  rw [if_neg (show ¬ ((-1 : Int) > 0) by decide)]
  by_cases h : ((n : Int) - 1) > -1
  · rw [if_pos h, show (-(-1) : Int) = 1 by decide, Int.ediv_one]; omega
  · rw [if_neg h]; omega
theorem sliceApplied_rev {sl : Addr} {vl vu vk : Value} {n : Nat} {Q : Int × Int × Nat → Shared → Prop} (hs : s.heap.IsSliceOf sl vl vu vk) (pl : IsPart vl none) (pu : IsPart vu none) (pk : IsPart vk (some (-1)))
    (h : Q ((n : Int) - 1, -1, n) s) : wpAny (model prog w) A (Builtin.Slice.sliceApplied (.ref sl) (pure (n : Int))) Q E s := by
  obtain ⟨os, hos, hcs, hds⟩ := id hs
  unfold Builtin.Slice.sliceApplied Builtin.Slice.sliceFields
  refine wpAny_bind (wpAny_bind (wpAny_field hos hds (x := vl) rfl (wpAny_bind (wpAny_field hos hds (x := vu) rfl (wpAny_bind (wpAny_field hos hds (x := vk) rfl (wpAny_pure ?_)))))))
  refine wpAny_bind (HT.slicePart_ pk ?_)
  show wpAny _ _ (if ((-1 : Int) == 0) = true then _ else _) _ _ s
  rw [if_neg (by decide)]
  refine wpAny_bind (HT.slicePart_ pl (wpAny_bind (HT.slicePart_ pu (wpAny_bind (wpAny_pure ?_)))))
  show wpAny _ _ (match Builtin.Slice.sliceAdjust none none (-1) (n : Int) with | (lo, hi) => pure (lo, (-1 : Int), Builtin.Slice.slicePlaces lo hi (-1))) _ _ s
  rw [adjust_rev n]
  show wpAny _ _ (pure ((n : Int) - 1, (-1 : Int), Builtin.Slice.slicePlaces ((n : Int) - 1) (-1) (-1))) _ _ s
  rw [places_rev]
  exact wpAny_pure h
theorem fm_congr {α β : Type} {f g : α → Option β} : ∀ {l : List α}, (∀ x ∈ l, f x = g x) → l.filterMap f = l.filterMap g
  | [], _ => rfl
  | x :: l, h => by
    rw [List.filterMap_cons, List.filterMap_cons, h x (by simp), fm_congr fun y hy => h y (List.mem_cons_of_mem _ hy)]
theorem pick_rev (xs : Array Value) : ((List.range xs.size).filterMap fun (m : Nat) => xs[(((xs.size : Int) - 1) + (m : Int) * -1).toNat]?).toArray = xs.toList.reverse.toArray := by
  have e : ((List.range xs.size).filterMap fun (m : Nat) => xs[(((xs.size : Int) - 1) + (m : Int) * -1).toNat]?) = ((List.range xs.size).map fun k => xs.size - 1 - k).filterMap (xs[·]?) := by
    rw [List.filterMap_map]
    refine fm_congr fun m hm => ?_
    have := List.mem_range.mp hm
    show xs[_]? = xs[xs.size - 1 - m]?
    congr 1; omega
  rw [e, PySem.W.krv_range, List.filterMap_reverse, PySem.W.krv_all]
theorem getItem_tuple_rev {t sl : Addr} {items : Array Value} {vl vu vk : Value} {Q : Value → Shared → Prop} (ht : IsTup s.heap t items) (hs : s.heap.IsSliceOf sl vl vu vk) (pl : IsPart vl none) (pu : IsPart vu none) (pk : IsPart vk (some (-1)))
    (h : Q (.ref s.heap.objs.size) { s with heap := s.heap.push { cls := .type "tuple", data := .seq items.toList.reverse.toArray } })
    (hsz : items.size ≤ sizeLine) : wpAny (model prog w) A (getItem (.ref t) (.ref sl)) Q E s := by
  have htake : sizeOk (.seq items.toList.reverse.toArray) := by
    show items.toList.reverse.toArray.size ≤ sizeLine
    rw [List.size_toArray, List.length_reverse, Array.length_toList]
    exact hsz
  obtain ⟨os, hos, hcs, hds⟩ := id hs
  have hTs : s.TypeIs (.ref sl) "slice" := ⟨os, hos, hcs⟩
  unfold getItem
  try with_reducible refine wpAny_holding ?_
  first | refine wpAny_bind (wpAny_pure ?_) | skip
  refine wpAny_bind (wpAny_sequenceKey ht.typeIs (by decide) ?_)
  refine wpAny_bind (wpAny_callSpecial?_slot (name := Str.ofString "__getitem__") ht.typeIs PyProof.Rows.slot_tuple_getitem
    (wpAny_call_entry PyProof.Rows.slot_tuple_getitem ht.typeIs entry_tuple_getitem ?_ (args_tuple_getitem _ _)))
  show wpAny _ _ (Builtin.Tuple.tupleItemsOf (.ref t) >>= _) _ _ s
  refine wpAny_bind (tupleItemsOf_ ht ?_)
  refine wpAny_bind (wpAny_typeOf hTs ?_)
  rw [if_pos (by decide)]
  refine wpAny_bind (sliceApplied_rev hs pl pu pk ?_)
  have hno : ¬ ((((items.size : Int) - 1) == 0 && (-1 : Int) == 1 && items.size == items.size) = true) := by
    rw [show ((-1 : Int) == 1) = false by decide]; simp
  show wpAny _ _ (if (((items.size : Int) - 1) == 0 && (-1 : Int) == 1 && items.size == items.size) = true then _ else _) _ _ s
  rw [if_neg hno, pick_rev]
  first
    | exact wpAny_bind (m := Builtin.Tuple.tupleExact _) (wpAny_newObj_type (wpAny_pure ⟨_, rfl, wpAny_pure h⟩) htake)
    | exact wpAny_bind (m := Builtin.Tuple.tupleExact _) (wpAny_newObj_type (wpAny_bind (wpAny_pure (wpAny_pure ⟨_, rfl, wpAny_pure h⟩))) htake)
    | exact wpAny_bind (wpAny_bind (m := Builtin.Tuple.tupleExact _) (wpAny_newObj_type (wpAny_pure (wpAny_pure ⟨_, rfl, wpAny_pure h⟩)) htake))
    | exact wpAny_bind (wpAny_bind (m := Builtin.Tuple.tupleExact _) (wpAny_newObj_type (wpAny_pure ⟨_, rfl, wpAny_pure h⟩) htake))
end
def tRevA (K : PySem.W.Frag) (te : TE) : TE := fun σ H Q => te σ H fun x H1 => (∃ a xs, x = .ref a ∧ SqL K H1 a xs ∧ ∀ p, H1 p = none → Q (.ref p) (upd H1 p (.lst xs.reverse))) ∨ (∃ a xs, x = .ref a ∧ SqT K H1 a xs ∧ ∀ p, H1 p = none → Q (.ref p) (upd H1 p (.tup xs.reverse)))
theorem pe_revA {X : Cx} {te : TE} {e : Expr} {k : Nat} {p1 p2 p3 pos : Pos} (he : PE X e te) : PE X (.Subscript e (.Slice none none (some (.UnaryOp .USub (.Constant (.int 1) k p1) p2)) p3) pos) (tRevA X.K te) := by
  refine ⟨fun pins s σ H Q I h => ?_⟩
  refine Subscript_ (thn (he.run pins s σ H _ I h) fun v s1 ⟨x, H1, I1, r1, q1⟩ => ?_)
  have hst : PO X (some (.UnaryOp .USub (.Constant (.int 1) k p1) p2)) (tPart (tUn (rU fun i => .int (-i)) (tC (.int 1)))) := po_some (pe_un un_neg pe_int)
  refine wpAny_Slice (thn (po_none.run pins s1 σ H1 (fun o H2 => o = none ∧ H2 = H1) I1 ⟨rfl, rfl⟩) fun vl s2 ⟨l, H2, I2, pl, el, e2⟩ => ?_)
  subst el e2
  refine thn (po_none.run pins s2 σ H2 (fun o H3 => o = none ∧ H3 = H2) I2 ⟨rfl, rfl⟩) fun vu s3 ⟨u, H3, I3, pu, eu, e3⟩ => ?_
  subst eu e3
  refine thn (hst.run pins s3 σ H3 (fun o H4 => o = some (-1) ∧ H4 = H3) I3 ⟨1, rfl, -1, rfl, rfl, rfl⟩) fun vs s4 ⟨o, H4, I4, ps, eo, e4⟩ => ?_
  subst eo e4
  have I5 : Inv X pins σ H4 { s4 with heap := s4.heap.push { cls := .type "slice", data := .fields #[vl, vu, vs] } } := I4.kept (t' := s4.toks) fun b ob q => Heap.get?_push_of_some _ q
  rcases q1 with ⟨a, xs, ex, hx, q⟩ | ⟨a, xs, ex, hx, q⟩
  · subst ex
    cases r1
    obtain ⟨its, r, ht, hz⟩ := I5.list hx
    have hlen := r.length
    show wpAny (model X.prog X.w) X.A (subscriptTail e (.Slice none none (some (.UnaryOp .USub (.Constant (.int 1) k p1) p2)) p3) (.ref a) (.ref s4.heap.objs.size)) (EP X pins σ Q) X.xe { s4 with heap := s4.heap.push { cls := .type "slice", data := .fields #[vl, vu, vs] } }
    refine tail_any (ops := [.ref a, .ref s4.heap.objs.size]) ht.isList.typeIs (PySem.slot_list_getitem.lookup) ?_ (by with_unfolding_all rfl)
    refine wpAny_getItem_list_slice ht.isList (Heap.IsSliceOf.new _ vl vu vs) pl pu ps (by decide) ?_ (by rw [List.size_toArray]; omega)
    rw [PySem.W.krv_pick]
    refine ⟨.ref _, _, I5.laid (t' := s4.toks) (o := .lst xs.reverse) (fun b ob q => Heap.get?_push_of_some _ q) (Nat.le_refl _) ?_, rfl, q _ (I5.hok.fresh (Nat.le_refl _))⟩
    exact ⟨by rw [List.length_reverse]; exact hz, _, 0, r.reverse, Heap.get?_push_size _ rfl⟩
  · subst ex
    cases r1
    obtain ⟨its, r, ht, hz⟩ := I5.tuple hx
    have hlen := r.length
    show wpAny (model X.prog X.w) X.A (subscriptTail e (.Slice none none (some (.UnaryOp .USub (.Constant (.int 1) k p1) p2)) p3) (.ref a) (.ref s4.heap.objs.size)) (EP X pins σ Q) X.xe { s4 with heap := s4.heap.push { cls := .type "slice", data := .fields #[vl, vu, vs] } }
    refine tail_any (ops := [.ref a, .ref s4.heap.objs.size]) ht.typeIs (PyProof.Rows.slot_tuple_getitem.lookup) ?_ (by with_unfolding_all rfl)
    refine getItem_tuple_rev ht (Heap.IsSliceOf.new _ vl vu vs) pl pu ps ?_ (by rw [List.size_toArray]; omega)
    refine ⟨.ref _, _, I5.laid (t' := s4.toks) (o := .tup xs.reverse) (fun b ob q => Heap.get?_push_of_some _ q) (Nat.le_refl _) ?_, rfl, q _ (I5.hok.fresh (Nat.le_refl _))⟩
    exact ⟨by rw [List.length_reverse]; exact hz, _, r.reverse, IsTup.new _ _⟩
def revD (x : D) (h : MH) (Q : KD) : Prop := match x with
  | .ref a => lstK (fun xs => ∀ p, h p = none → Q (.ref p) (up h p (.lst xs.reverse))) (h a)
  | .rol xs => ∀ p, h p = none → Q (.ref p) (up h p (.lst xs.reverse))
  | .tup xs => Q (.tup xs.reverse) h
  | _ => False
theorem de_revL {X : Cx} {e : Expr} {te : E1} {k : Nat} {p1 p2 p3 pos : Pos} (he : DE X e te) : DE X (.Subscript e (.Slice none none (some (.UnaryOp .USub (.Constant (.int 1) k p1) p2)) p3) pos) (dUn revD te) :=
  weakE (pe_revA he) fun σV H QV ⟨σ, h, Q, hE, hH, ht, hc⟩ => ⟨σ, h, _, hE, hH, ht, fun d h' v H' s' r' rv q => by
    cases d with
    | rol xs =>
      obtain ⟨a, vs, rfl, s, r⟩ := rv
      exact .inl ⟨a, vs, rfl, s.sq, fun p np => (hc.step s').new r' np (.of (P2.reverse r.pair)) (q p (r'.nofresh np))⟩
    | ref a =>
      cases (show v = _ from rv)
      obtain ⟨xs, e, q⟩ := lstK_inv q
      obtain ⟨vs, eH, r⟩ := r' a _ e
      exact .inl ⟨a, vs, rfl, SqL.of eH, fun p np => (hc.step s').new r' np (.of (P2.reverse r.pair)) (q p (r'.nofresh np))⟩
    | tup xs =>
      obtain ⟨a, vs, rfl, s, r⟩ := rv
      exact .inr ⟨a, vs, rfl, s, fun p np => (hc.step s').tup r' np (.of (P2.reverse r.pair)) q⟩
    | _ => exact q.elim⟩
/-! how long a repr is -/
def sh (c : Nat) (d : D) : Prop := (pd d).showable = true ∧ (pd d).shown.length ≤ c
theorem sh_none : sh 4 .none := ⟨by simp [pd, PyData.showable], by simp only [pd, PyData.shown]; decide⟩
theorem sh_bool (b : Bool) : sh 5 (.bool b) := ⟨by simp [pd, PyData.showable], by simp only [pd, PyData.shown]; cases b <;> decide⟩
theorem sh_int {i : Int} (h : i.natAbs < 2 ^ 64) : sh 65 (.int i) := by
  have l : i.natAbs.log2 < 64 := by
    by_cases z : i.natAbs = 0
    · rw [z]; decide
    · exact (Nat.log2_lt z).mpr h
  refine ⟨by simp only [pd, PyData.showable]; exact decide_eq_true (by omega), ?_⟩
  simp only [pd, PyData.shown]
  rw [PySem.ofString_length]
  exact int_text_length_le (by decide) l
theorem sh_str {x : Str} {n : Nat} (o : PyData.strOk x = true) (h : x.length ≤ n) : sh (10 * n + 2) (.str x) := by
  refine ⟨by simp [pd, PyData.showable], ?_⟩
  simp only [pd, PyData.shown]
  refine Nat.le_trans (PySem.StrLaws.reprText_len x fun c hc => Nat.lt_trans (okC_iff.mp o c hc) (by decide)) (by omega)
theorem piled_le {c : Nat} : ∀ ts : List Str, (∀ t ∈ ts, t.length ≤ c) → piled ts ≤ ts.length * (c + 2)
  | [], _ => by simp [piled_nil]
  | t :: r, h => by
    have := piled_le r fun u hu => h u (by simp [hu])
    have := h t (by simp)
    rw [piled_cons, List.length_cons, Nat.succ_mul]; omega
theorem shAll_of {c : Nat} : ∀ {ds : List D}, (∀ d ∈ ds, sh c d) → PyData.showableAll (pds ds) = true ∧ (PyData.shownAll (pds ds)).length = ds.length ∧ ∀ t ∈ PyData.shownAll (pds ds), t.length ≤ c
  | [], _ => by simp [pds, PyData.showableAll, PyData.shownAll]
  | d :: ds, h => by
    obtain ⟨a, b, e⟩ := shAll_of (ds := ds) fun x hx => h x (by simp [hx])
    obtain ⟨f, g⟩ := h d (by simp)
    refine ⟨by simp only [pds, PyData.showableAll, f, a]; rfl, by simp only [pds, PyData.shownAll, List.length_cons, b], fun t ht => ?_⟩
    simp only [pds, PyData.shownAll, List.mem_cons] at ht
    rcases ht with rfl | ht
    · exact g
    · exact e t ht
theorem str_app_len (a b : Str) : (a ++ b).length = a.length + b.length := by show (a.cps ++ b.cps).size = _; rw [Array.size_append]; rfl
theorem sh_tup {c n : Nat} {ds : List D} (h : ∀ d ∈ ds, sh c d) (hn : ds.length ≤ n) : sh (n * (c + 2) + 3) (.tup ds) := by
  obtain ⟨a, b, e⟩ := shAll_of h
  refine ⟨by simp only [pd, PyData.showable]; exact a, ?_⟩
  simp only [pd, PyData.shown]
  unfold tupleText
  have hj : (Str.join ", " (PyData.shownAll (pds ds))).length ≤ n * (c + 2) := by
    by_cases z : PyData.shownAll (pds ds) = []
    · rw [z]; exact Nat.zero_le _
    · have h1 := join_length_add _ z
      have h2 := piled_le _ e
      rw [b] at h2
      have h3 : ds.length * (c + 2) ≤ n * (c + 2) := Nat.mul_le_mul_right _ hn
      omega
  rw [str_app_len, str_app_len]
  have h1 : (("(" : String) : Str).length = 1 := by decide
  have h2 : (Str.ofString (if ((PyData.shownAll (pds ds)).length == 1) = true then ",)" else ")")).length ≤ 2 := by split <;> decide
  have h1' : Str.length ("(" : String) = 1 := h1
  have h2' : Str.length (if ((PyData.shownAll (pds ds)).length == 1) = true then ",)" else ")" : String) ≤ 2 := h2
  omega
theorem sh_up {c c' : Nat} {d : D} (h : sh c d) (l : c ≤ c') : sh c' d := ⟨h.1, Nat.le_trans h.2 l⟩
theorem repr_go {c : Nat} {x : D} {h : MH} {Q : KD} (p : pure? 60 x = true) (s : sh c x) (hc : c ≤ sizeLine) (q : Q (.str (pd x).shown) h) : reprD x h Q := ⟨p, s.1, Nat.le_trans s.2 hc, q⟩
end DL
namespace DL
open PySem PySem.Spec PyProof.Rows L2
/-! ### evaluation by simp -/
abbrev D1 := DL.D
theorem atI_z {α : Type} (x : α) (r : List α) : atI (x :: r) 0 = some x := atI_nat (j := 0) rfl
theorem atI_1 {α : Type} (x y : α) (r : List α) : atI (x :: y :: r) 1 = some y := atI_nat (j := 1) rfl
theorem atI_2 {α : Type} (x y z : α) (r : List α) : atI (x :: y :: z :: r) 2 = some z := atI_nat (j := 2) rfl
theorem atI_3 {α : Type} (x y z u : α) (r : List α) : atI (x :: y :: z :: u :: r) 3 = some u := atI_nat (j := 3) rfl
theorem atI_4 {α : Type} (x y z u v : α) (r : List α) : atI (x :: y :: z :: u :: v :: r) 4 = some v := atI_nat (j := 4) rfl
theorem ixN_of {n : Nat} {i : Int} {k : Nat} (e : i = (k : Int)) (h : k < n) : ixN n i = some k := by
  subst e
  unfold ixN
  rw [if_pos (by omega), if_pos (by omega)]; rfl
theorem ixN_last {n : Nat} (h : 0 < n) : ixN n (-1) = some (n - 1) := by
  unfold ixN
  rw [if_neg (by omega), if_pos (by omega)]
  congr 1; omega
theorem atI_of {α : Type} {xs : List α} {i : Int} {k : Nat} {x : α} (e : i = (k : Int)) (h : xs[k]? = some x) : atI xs i = some x := by subst e; exact atI_nat h
theorem atI_neg {α : Type} {xs : List α} {x : α} (h : xs.getLast? = some x) : atI xs (-1) = some x := by
  unfold atI
  cases xs with
  | nil => cases h
  | cons y r =>
    rw [ixN_last (by rw [List.length_cons]; omega)]
    rw [List.getLast?_eq_getElem?] at h
    exact h
theorem lh_of {Q : KD} {d : D} {h : MH} (q : Q d h) : Lh Q d h := ⟨h, le.refl, q⟩
theorem up_com {h : MH} {a b : Addr} {x y : MO} (n : a ≠ b) : up (up h a x) b y = up (up h b y) a x := by
  funext c; unfold up; by_cases p : c = a <;> by_cases q : c = b <;> simp_all
/-- equality of data -/
theorem eqv_int (i j : Int) : PyData.eqv (.int i) (.int j) = decide (i = j) := by simp [PyData.eqv, Bool.beq_eq_decide_eq]
theorem eqv_str (i j : Str) : PyData.eqv (.str i) (.str j) = decide (i = j) := by
  simp only [PyData.eqv]
  by_cases e : i = j
  · subst e; simp
  · rw [decide_eq_false e]; exact beq_eq_false_iff_ne.mpr e
section
variable {σ : Sl} {h : MH} {Q : KD} {D : Nd}
/-! every step by its form; nothing is opened that is not at hand -/
theorem e_seq {t u : S1} : dSeq t u D σ h = t { D with nx := u D } σ h := rfl
theorem e_next : dNext D σ h = D.nx σ h := rfl
theorem e_brk : dBrk D σ h = D.bk σ h := rfl
theorem e_cnt : dCnt D σ h = D.ct σ h := rfl
theorem e_drop {t : E1} : dDrop t D σ h = t σ h fun _ h1 => D.nx σ h1 := rfl
theorem e_ret {t : E1} : dRet t D σ h = t σ h D.rt := rfl
theorem e_retN : dRetN D σ h = D.rt .none h := rfl
theorem e_ifS {c : T1} {t u : S1} : dIfS c t u D σ h = c σ h fun b h1 => if b = true then t D σ h1 else u D σ h1 := rfl
theorem e_asg {t : E1} {g : G1} : dAsg t g D σ h = t σ h fun x h1 => g x σ h1 D.nx := rfl
theorem e_gN {i : Nat} {d : D1} {n : Sl → MH → Prop} : gN i d σ h n = n (put σ i (some d)) h := rfl
theorem e_gSb {to ti : E1} {t : Set1} {d : D1} {n : Sl → MH → Prop} : gSb to ti t d σ h n = to σ h fun o h1 => ti σ h1 fun i h2 => t o i d h2 fun h3 => n σ h3 := rfl
theorem e_gTp {k : Nat} {gs : Gs1} {ds : List D1} {n : Sl → MH → Prop} : gTp k gs (.tup ds) σ h n = (ds.length = k ∧ gs ds σ h n) := rfl
theorem e_gCn {g : G1} {gs : Gs1} {d : D1} {r : List D1} {n : Sl → MH → Prop} : gCn g gs (d :: r) σ h n = g d σ h fun σ' h' => gs r σ' h' n := rfl
theorem e_gNl {n : Sl → MH → Prop} : gNl [] σ h n = n σ h := rfl
def varK (o : Option D1) (h : MH) (Q : KD) : Prop := match o with | some d => Q d h | none => False
theorem e_var {i : Nat} : dVar i σ h Q = varK (nth σ i) h Q := rfl
theorem e_varK {d : D1} : varK (some d) h Q = Q d h := rfl
theorem e_nth0 {x : Option D1} {r : Sl} : nth (x :: r) 0 = x := rfl
theorem e_nthS {x : Option D1} {r : Sl} {n : Nat} : nth (x :: r) (n + 1) = nth r n := rfl
theorem e_put0 {x d : Option D1} {r : Sl} : put (x :: r) 0 d = d :: r := rfl
theorem e_putS {x d : Option D1} {r : Sl} {n : Nat} : put (x :: r) (n + 1) d = x :: put r n d := rfl
theorem e_c {d : D1} : dC d σ h Q = Q d h := rfl
theorem e_op {r : R1} {ta tb : E1} : dOp r ta tb σ h Q = ta σ h fun x h1 => tb σ h1 fun y h2 => r x y h2 Q := rfl
theorem e_un {r : D1 → MH → KD → Prop} {t : E1} : dUn r t σ h Q = t σ h fun x h1 => r x h1 Q := rfl
theorem e_call {r : C1} {t : A1} : dCall r t σ h Q = t σ h fun ds h1 => r ds h1 Q := rfl
theorem e_nil {QA : List D1 → MH → Prop} : dNil σ h QA = QA [] h := rfl
theorem e_cons {t : E1} {r : A1} {QA : List D1 → MH → Prop} : dCons t r σ h QA = t σ h fun x h1 => r σ h1 fun xs h2 => QA (x :: xs) h2 := rfl
theorem e_tup {t : A1} : dTup t σ h Q = t σ h fun ds h1 => ds.length ≤ sizeLine ∧ Q (.tup ds) h1 := rfl
theorem e_lst {t : A1} : dLst t σ h Q = t σ h fun ds h1 => ds.length ≤ sizeLine ∧ ∀ p, h1 p = none → Q (.ref p) (up h1 p (.lst ds)) := rfl
theorem e_test {t : E1} {QB : Bool → MH → Prop} : dTest t σ h QB = t σ h (asB QB) := rfl
theorem e_asB {k : Bool} {QB : Bool → MH → Prop} : asB QB (.bool k) h = QB k h := rfl
theorem e_tru {t : E1} {QB : Bool → MH → Prop} : dTru t σ h QB = t σ h fun x h1 => truD x h1 QB := rfl
theorem e_andT {t u : T1} {QB : Bool → MH → Prop} : dAndT t u σ h QB = t σ h fun c h1 => if c = true then u σ h1 QB else QB false h1 := rfl
theorem e_orT {t u : T1} {QB : Bool → MH → Prop} : dOrT t u σ h QB = t σ h fun c h1 => if c = true then QB true h1 else u σ h1 QB := rfl
theorem e_notT {t : T1} {QB : Bool → MH → Prop} : dNotT t σ h QB = t σ h fun c h1 => QB (!c) h1 := rfl
theorem e_andV {t u : E1} : dAndV t u σ h Q = t σ h (asB fun c h1 => if c = true then u σ h1 Q else Q (.bool false) h1) := rfl
theorem e_orV {t u : E1} : dOrV t u σ h Q = t σ h (asB fun c h1 => if c = true then Q (.bool true) h1 else u σ h1 Q) := rfl
theorem e_notV {t : E1} : dNotV t σ h Q = t σ h (asB fun c h1 => Q (.bool (!c)) h1) := rfl
theorem e_if {t : T1} {ta tb : E1} : dIf t ta tb σ h Q = t σ h fun c h1 => if c = true then ta σ h1 Q else tb σ h1 Q := rfl
theorem e_aug {i : Nat} {t : E1} {r : R1} : dAug i t r D σ h = varK (nth σ i) h fun x h0 => t σ h0 fun y h1 => r x y h1 fun z h2 => D.nx (put σ i (some z)) h2 := by
  unfold dAug varK; cases nth σ i <;> rfl
theorem e_augS {to ti te : E1} {r : R1} : dAugS to ti te r D σ h = to σ h fun o h1 => ti σ h1 fun i h2 => getD1 o i h2 fun x h3 => te σ h3 fun y h4 => r x y h4 fun z h5 => setD o i z h5 fun h6 => D.nx σ h6 := rfl
theorem e_sl {t : E1} {tl tu : O1} : dSl t tl tu σ h Q = t σ h fun x h1 => tl σ h1 fun lo h2 => tu σ h2 fun hi h3 => slD x lo hi h3 Q := rfl
def partK (x : D1) (h : MH) (QO : Option Int → MH → Prop) : Prop := match x with | .int i => QO (some i) h | _ => False
theorem e_part {t : E1} {QO : Option Int → MH → Prop} : dPart t σ h QO = t σ h fun x h1 => partK x h1 QO := rfl
theorem e_partK {i : Int} {QO : Option Int → MH → Prop} : partK (.int i) h QO = QO (some i) h := rfl
theorem e_noPart {QO : Option Int → MH → Prop} : dNoPart σ h QO = QO none h := rfl
theorem e_bm0 {ok : D1 → MH → Prop} {r : M1} {to : E1} : dBM0 ok r to σ h Q = to σ h fun x h1 => ok x h1 ∧ r x [] h1 Q := rfl
theorem e_bm {ok : D1 → MH → Prop} {r : M1} {to : E1} {t : A1} : dBM ok r to t σ h Q = to σ h fun x h1 => ok x h1 ∧ t σ h1 fun ds h2 => r x ds h2 Q := rfl
theorem e_join {to te : E1} : dJoin to te σ h Q = to σ h fun x h1 => (∃ z, x = .str z) ∧ te σ h1 fun y h2 => joinD x y h2 Q := rfl
theorem e_yes {QB : Bool → MH → Prop} : dYes σ h QB = QB true h := rfl
theorem e_wipe0 : wipeD σ [] = σ := rfl
theorem e_wipeS {v : Nat} {vs : List Nat} : wipeD σ (v :: vs) = put (wipeD σ vs) v none := rfl
/-- a comprehension behind its source -/
def lcT (xs : List D1) (stab : MH → Prop) (g : G1) (tt : T1) (te : E1) (vs : List Nat) (σ : Sl) (Q : KD) (h1 : MH) : Prop := xs.length ≤ sizeLine ∧ ∃ I : Nat → List D1 → MH → Prop, (∃ h0, le h0 h1 ∧ I 0 [] h0) ∧ (∀ i a h, I i a h → stab h) ∧
  (∀ i x a h, xs[i]? = some x → I i a h → g x (wipeD σ vs) h fun σ2 h2 => tt σ2 h2 fun b h3 => if b = true then te σ2 h3 fun y h4 => ∃ h5, le h5 h4 ∧ I (i + 1) (a ++ [y]) h5 else ∃ h5, le h5 h3 ∧ I (i + 1) a h5) ∧
  ∀ a h, I xs.length a h → ∀ p, h p = none → Q (.ref p) (up h p (.lst a))
theorem e_lc {it : I1} {g : G1} {tt : T1} {te : E1} {vs : List Nat} : dLc it g tt te vs σ h Q = it σ h fun xs stab h1 => lcT xs stab g tt te vs σ Q h1 := rfl
/-- a for behind its source -/
def forT (xs : List D1) (stab : MH → Prop) (g : G1) (tb : S1) (D : Nd) (σ : Sl) (h1 : MH) : Prop := ∃ I : Nat → Sl → MH → Prop, Lw (I 0) σ h1 ∧ (∀ i σ h, I i σ h → stab h) ∧
  (∀ i x σ h, xs[i]? = some x → I i σ h → g x σ h fun σ2 h2 => tb { D with nx := Lw (I (i + 1)), ct := Lw (I (i + 1)), bk := D.nx } σ2 h2) ∧ ∀ σ h, I xs.length σ h → D.nx σ h
theorem e_for {it : I1} {g : G1} {tb : S1} : dFor it g tb D σ h = it σ h fun xs stab h1 => forT xs stab g tb D σ h1 := rfl
/-- the value is f of the item, nothing is changed -/
theorem lcT_map {xs : List D1} {stab : MH → Prop} {g : G1} {te : E1} {vs : List Nat} (f : D1 → D1) (hz : xs.length ≤ sizeLine) (hs : stab h)
    (he : ∀ x ∈ xs, ∀ Q' : KD, Q' (f x) h → g x (wipeD σ vs) h fun σ2 h2 => te σ2 h2 Q') (fin : ∀ p, h p = none → Q (.ref p) (up h p (.lst (xs.map f)))) : lcT xs stab g dYes te vs σ Q h := by
  refine ⟨hz, fun i a hh => hh = h ∧ a = (xs.take i).map f, ⟨h, le.refl, rfl, rfl⟩, fun i a hh e => by rw [e.1]; exact hs, ?_, ?_⟩
  · rintro i x a hh hx ⟨rfl, rfl⟩
    obtain ⟨hi, ex⟩ := List.getElem?_eq_some_iff.mp hx
    refine he x (List.mem_of_getElem? hx) (fun y h4 => ∃ h5, le h5 h4 ∧ h5 = hh ∧ (xs.take i).map f ++ [y] = (xs.take (i + 1)).map f) ⟨hh, le.refl, rfl, ?_⟩
    rw [List.take_succ_eq_append_getElem hi, List.map_append, ex]; rfl
  · rintro a hh ⟨rfl, rfl⟩ p np
    rw [List.take_length]
    exact fin p np
/-! values -/
theorem v_add {i j : Int} : addD (.int i) (.int j) h Q = Q (.int (i + j)) h := rfl
theorem v_addS {a b : Str} : addD (.str a) (.str b) h Q = (a.length + b.length ≤ sizeLine ∧ Q (.str (a ++ b)) h) := rfl
theorem v_addT {a b : List D1} : addD (.tup a) (.tup b) h Q = (a.length + b.length ≤ sizeLine ∧ Q (.tup (a ++ b)) h) := rfl
theorem v_iadd {i j : Int} : iaddD (.int i) (.int j) h Q = Q (.int (i + j)) h := rfl
theorem v_sub {i j : Int} : subD (.int i) (.int j) h Q = Q (.int (i - j)) h := rfl
theorem v_mul {i j : Int} : mulD (.int i) (.int j) h Q = (mulOk i j ∧ Q (.int (i * j)) h) := rfl
theorem v_fdiv {i j : Int} : fdivD (.int i) (.int j) h Q = (divOk j ∧ Q (.int (i / j)) h) := rfl
theorem v_mod {i j : Int} : modD (.int i) (.int j) h Q = (0 < j ∧ Q (.int (i % j)) h) := rfl
theorem v_pow {i j : Int} : powD (.int i) (.int j) h Q = (CPow i j ∧ Q (.int (i ^ j.toNat)) h) := rfl
theorem v_shl {i j : Int} : shlD (.int i) (.int j) h Q = (CPow i j ∧ Q (.int (i * 2 ^ j.toNat)) h) := rfl
theorem v_shr {i j : Int} : shrD (.int i) (.int j) h Q = (0 ≤ j ∧ Q (.int (i / 2 ^ j.toNat)) h) := rfl
theorem v_neg {i : Int} : negD (.int i) h Q = Q (.int (-i)) h := rfl
theorem v_lt {i j : Int} : ltD (.int i) (.int j) h Q = Q (.bool (decide (i < j))) h := rfl
theorem v_le {i j : Int} : leD (.int i) (.int j) h Q = Q (.bool (decide (i ≤ j))) h := rfl
theorem v_gt {i j : Int} : gtD (.int i) (.int j) h Q = Q (.bool (decide (j < i))) h := rfl
theorem v_ge {i j : Int} : geD (.int i) (.int j) h Q = Q (.bool (decide (j ≤ i))) h := rfl
theorem v_eqI {i j : Int} : eqD (.int i) (.int j) h Q = Q (.bool (decide (i = j))) h := by show Q (.bool (PyData.eqv (.int i) (.int j))) h = _; rw [eqv_int]
theorem v_neI {i j : Int} : neD (.int i) (.int j) h Q = Q (.bool (!decide (i = j))) h := by show Q (.bool (!PyData.eqv (.int i) (.int j))) h = _; rw [eqv_int]
theorem v_eqS {i j : Str} : eqD (.str i) (.str j) h Q = Q (.bool (decide (i = j))) h := by show Q (.bool (PyData.eqv (.str i) (.str j))) h = _; rw [eqv_str]
theorem v_neS {i j : Str} : neD (.str i) (.str j) h Q = Q (.bool (!decide (i = j))) h := by show Q (.bool (!PyData.eqv (.str i) (.str j))) h = _; rw [eqv_str]
theorem v_inS {a z : Str} : inD (.str a) (.str z) h Q = Q (.bool (inS a z)) h := rfl
theorem v_ninS {a z : Str} : ninD (.str a) (.str z) h Q = Q (.bool (!inS a z)) h := rfl
theorem v_inT {x : D1} {ds : List D1} : inD x (.tup ds) h Q = inSeq x (fun b => Q (.bool b) h) ds := rfl
theorem v_ninT {x : D1} {ds : List D1} : ninD x (.tup ds) h Q = inSeq x (fun b => Q (.bool (!b)) h) ds := rfl
theorem v_inRol {x : D1} {ds : List D1} : inD x (.rol ds) h Q = inSeq x (fun b => Q (.bool b) h) ds := rfl
theorem v_ninRol {x : D1} {ds : List D1} : ninD x (.rol ds) h Q = inSeq x (fun b => Q (.bool (!b)) h) ds := rfl
theorem v_inR {x : D1} {a : Addr} : inD x (.ref a) h Q = inO x (fun b => Q (.bool b) h) (h a) := rfl
theorem v_ninR {x : D1} {a : Addr} : ninD x (.ref a) h Q = inO x (fun b => Q (.bool (!b)) h) (h a) := rfl
theorem v_inO {x : D1} {ds : List D1} {k : Bool → Prop} : inO x k (some (.lst ds)) = inSeq x k ds := rfl
theorem v_inOd {x : D1} {kvs : Kvs} {k : Bool → Prop} : inO x k (some (.dic kvs)) = inDic kvs x k := rfl
theorem v_inSeq {x : D1} {ds : List D1} {k : Bool → Prop} : inSeq x k ds = (pure? 60 x = true ∧ pures? 60 ds = true ∧ k (ds.any fun z => eqF z x)) := rfl
theorem v_inDic {x : D1} {kvs : Kvs} {k : Bool → Prop} : inDic kvs x k = (fit kvs x = true ∧ k (dget kvs x).isSome) := rfl
theorem v_seqO {ds : List D1} : seqO (some (.lst ds)) = some ds := rfl
theorem v_seqR {a : Addr} : seqOf h (.ref a) = seqO (h a) := rfl
theorem v_seqT {ds : List D1} : seqOf h (.tup ds) = some ds := rfl
theorem v_seqL {ds : List D1} : seqOf h (.rol ds) = some ds := rfl
def atK (o : Option D1) (h : MH) (Q : KD) : Prop := match o with | some d => Q d h | none => False
theorem v_ixR {a : Addr} {y : D1} : ixD (.ref a) y h Q = ixO y h Q (h a) := rfl
theorem v_ixT {ds : List D1} {y : D1} : ixD (.tup ds) y h Q = ixSeq ds y h Q := rfl
theorem v_ixL {ds : List D1} {y : D1} : ixD (.rol ds) y h Q = ixSeq ds y h Q := rfl
theorem v_ixS {z : Str} {y : D1} : ixD (.str z) y h Q = ixStr z y h Q := rfl
theorem v_ixO {ds : List D1} {y : D1} : ixO y h Q (some (.lst ds)) = ixSeq ds y h Q := rfl
theorem v_ixOd {kvs : Kvs} {y : D1} : ixO y h Q (some (.dic kvs)) = ixDic kvs y h Q := rfl
theorem v_ixOf {o : Obj} {kvs : Kvs} {y : D1} : ixO y h Q (some (.fdic o kvs)) = ixDic kvs y h Q := rfl
theorem v_ixSeq {ds : List D1} {i : Int} : ixSeq ds (.int i) h Q = atK (atI ds i) h Q := rfl
theorem v_ixDic {kvs : Kvs} {y : D1} : ixDic kvs y h Q = (fit kvs y = true ∧ dgetK h Q (dget kvs y)) := rfl
theorem v_dgetK {d : D1} : dgetK h Q (some d) = Q d h := rfl
theorem v_atK {d : D1} : atK (some d) h Q = Q d h := rfl
def atSK (o : Option Nat) (h : MH) (Q : KD) : Prop := match o with | some c => Q (.str ⟨#[c]⟩) h | none => False
theorem v_ixStr {z : Str} {i : Int} : ixStr z (.int i) h Q = atSK (atI z.cps.toList i) h Q := rfl
theorem v_atSK {c : Nat} : atSK (some c) h Q = Q (.str ⟨#[c]⟩) h := rfl
def getK (i : Int) (o : Option D1) (h : MH) (Q : KD) : Prop := match o with | some d => 0 ≤ i ∧ Q d h | none => False
theorem v_get {a : Addr} {y : D1} : getD1 (.ref a) y h Q = getO y h Q (h a) := rfl
theorem v_getO {xs : List D1} {y : D1} : getO y h Q (some (.lst xs)) = getL y h Q xs := rfl
theorem v_getOd {kvs : Kvs} {y : D1} : getO y h Q (some (.dic kvs)) = ixDic kvs y h Q := rfl
theorem v_getL {xs : List D1} {i : Int} : getL (.int i) h Q xs = getK i (atI xs i) h Q := rfl
theorem v_getK {i : Int} {d : D1} : getK i (some d) h Q = (0 ≤ i ∧ Q d h) := rfl
def setK (p : Addr) (d : D1) (xs : List D1) (o : Option Nat) (h : MH) (n : MH → Prop) : Prop := match o with | some j => n (up h p (.lst (xs.set j d))) | none => False
theorem v_set {a : Addr} {i d : D1} {n : MH → Prop} : setD (.ref a) i d h n = setO a i d h n (h a) := rfl
theorem v_setO {a : Addr} {i d : D1} {xs : List D1} {n : MH → Prop} : setO a i d h n (some (.lst xs)) = setL a i d h n xs := rfl
theorem v_setOd {a : Addr} {i d : D1} {kvs : Kvs} {n : MH → Prop} : setO a i d h n (some (.dic kvs)) = setDic a i d h n kvs := rfl
theorem v_setL {a : Addr} {i : Int} {d : D1} {xs : List D1} {n : MH → Prop} : setL a (.int i) d h n xs = setK a d xs (ixN xs.length i) h n := rfl
theorem v_setDic {a : Addr} {i d : D1} {kvs : Kvs} {n : MH → Prop} : setDic a i d h n kvs = (fit kvs i = true ∧ kvs.length < sizeLine ∧ n (up h a (.dic (dset kvs i d)))) := rfl
theorem v_setK {a : Addr} {j : Nat} {d : D1} {xs : List D1} {n : MH → Prop} : setK a d xs (some j) h n = n (up h a (.lst (xs.set j d))) := rfl
theorem v_on1 {r : D1 → MH → KD → Prop} {d : D1} : on1 r [d] h Q = r d h Q := rfl
theorem v_on2 {r : R1} {d e : D1} : on2 r [d, e] h Q = r d e h Q := rfl
theorem v_lenR {a : Addr} : lenD (.ref a) h Q = lenO h Q (h a) := rfl
theorem v_lenO {ds : List D1} : lenO h Q (some (.lst ds)) = Q (.int ds.length) h := rfl
theorem v_lenOd {kvs : Kvs} : lenO h Q (some (.dic kvs)) = Q (.int kvs.length) h := rfl
theorem v_lenT {ds : List D1} : lenD (.tup ds) h Q = Q (.int ds.length) h := rfl
theorem v_lenL {ds : List D1} : lenD (.rol ds) h Q = Q (.int ds.length) h := rfl
theorem v_lenS {z : Str} : lenD (.str z) h Q = Q (.int z.length) h := rfl
theorem v_seqK {k : List D1 → Prop} {ds : List D1} : seqK k (some ds) = k ds := rfl
theorem v_tuple {d : D1} : tupleD d h Q = seqK (fun ds => Q (.tup ds) h) (seqOf h d) := rfl
theorem v_list {d : D1} : listD d h Q = seqK (fun ds => ∀ p, h p = none → Q (.ref p) (up h p (.lst ds))) (seqOf h d) := rfl
theorem v_abs {i : Int} : absD (.int i) h Q = Q (.int (if i < 0 then -i else i)) h := rfl
theorem v_intI {i : Int} : intD (.int i) h Q = Q (.int i) h := rfl
theorem v_intB {b : Bool} : intD (.bool b) h Q = Q (.int (if b = true then 1 else 0)) h := rfl
theorem v_okL {a : Addr} : okL (.ref a) h = isLst (h a) := rfl
theorem v_isLst {xs : List D1} : isLst (some (.lst xs)) = True := rfl
theorem v_app {a : Addr} {d : D1} : appendD (.ref a) [d] h Q = lstK (fun xs => xs.length < sizeLine ∧ Q .none (up h a (.lst (xs ++ [d])))) (h a) := rfl
theorem v_lstK {k : List D1 → Prop} {xs : List D1} : lstK k (some (.lst xs)) = k xs := rfl
theorem v_slS {z : Str} {lo hi : Option Int} : slD (.str z) lo hi h Q = Q (.str (cutS z lo hi)) h := rfl
theorem v_slT {ds : List D1} {lo hi : Option Int} : slD (.tup ds) lo hi h Q = Q (.tup (cutD ds lo hi)) h := rfl
theorem v_join {a : Str} {d : D1} : joinD (.str a) d h Q = seqK (joinK a h Q) (seqOf h d) := rfl
theorem v_is {d : D1} : isD d .none h Q = Q (.bool (isNone d)) h := rfl
theorem v_isnot {d : D1} : nisD d .none h Q = Q (.bool (!isNone d)) h := rfl
theorem v_max {i j : Int} : max2D (.int i) (.int j) h Q = Q (.int (if j > i then j else i)) h := rfl
theorem v_min {i j : Int} : min2D (.int i) (.int j) h Q = Q (.int (if j < i then j else i)) h := rfl
theorem v_iSeq {t : E1} {R : List D1 → (MH → Prop) → MH → Prop} : iSeq t σ h R = t σ h fun d h1 => srcD d h1 R := rfl
theorem v_srcT {xs : List D1} {R : List D1 → (MH → Prop) → MH → Prop} : srcD (.tup xs) h R = R xs (fun _ => True) h := rfl
theorem v_srcL {xs : List D1} {R : List D1 → (MH → Prop) → MH → Prop} : srcD (.rol xs) h R = R xs (fun _ => True) h := rfl
theorem v_srcS {z : Str} {R : List D1 → (MH → Prop) → MH → Prop} : srcD (.str z) h R = R (signs z) (fun _ => True) h := rfl
theorem v_srcR {a : Addr} {R : List D1 → (MH → Prop) → MH → Prop} : srcD (.ref a) h R = srcO a h R (h a) := rfl
theorem v_srcO {a : Addr} {xs : List D1} {R : List D1 → (MH → Prop) → MH → Prop} : srcO a h R (some (.lst xs)) = R xs (stabO a xs) h := rfl
theorem v_iRg1 {t : A1} {R : List D1 → (MH → Prop) → MH → Prop} : iRg1 t σ h R = t σ h fun ds h1 => rg1 ds h1 R := rfl
theorem v_rg1 {j : Int} {R : List D1 → (MH → Prop) → MH → Prop} : rg1 [.int j] h R = ((-(2 ^ 62) ≤ j ∧ j < 2 ^ 62) ∧ R (rgD 0 j.toNat) (fun _ => True) h) := rfl
theorem v_truN {QB : Bool → MH → Prop} : truD .none h QB = QB false h := rfl
theorem v_truB {b : Bool} {QB : Bool → MH → Prop} : truD (.bool b) h QB = QB b h := rfl
theorem v_truI {i : Int} {QB : Bool → MH → Prop} : truD (.int i) h QB = QB (i != 0) h := rfl
theorem v_truS {z : Str} {QB : Bool → MH → Prop} : truD (.str z) h QB = QB (z.length != 0) h := rfl
theorem v_truR {a : Addr} {QB : Bool → MH → Prop} : truD (.ref a) h QB = truL h QB (seqO (h a)) := rfl
theorem v_truT {ds : List D1} {QB : Bool → MH → Prop} : truD (.tup ds) h QB = truL h QB (some ds) := rfl
theorem v_truRol {ds : List D1} {QB : Bool → MH → Prop} : truD (.rol ds) h QB = truL h QB (some ds) := rfl
theorem v_truL {ds : List D1} {QB : Bool → MH → Prop} : truL h QB (some ds) = QB (!ds.isEmpty) h := rfl
theorem e_dic0 : dDic0 σ h Q = ∀ p, h p = none → Q (.ref p) (up h p (.dic [])) := rfl
theorem e_disp {trs : List (E1 × E1)} : dDisp trs σ h Q = dPairs trs σ h fun ps h1 => ps.all (fun p => (scaK p.1).isSome) = true ∧ ps.length ≤ 15 ∧ ∀ p, h1 p = none → Q (.ref p) (up h1 p (.dic (dmerge [] ps))) := rfl
theorem e_pairs0 {QP : Kvs → MH → Prop} : dPairs [] σ h QP = QP [] h := rfl
theorem e_pairsS {tk tv : E1} {r : List (E1 × E1)} {QP : Kvs → MH → Prop} : dPairs ((tk, tv) :: r) σ h QP = tk σ h fun x h1 => tv σ h1 fun y h2 => dPairs r σ h2 fun ps h3 => QP ((x, y) :: ps) h3 := rfl
theorem e_chain {r r' : R1} {ta tb tc : E1} : dChain r r' ta tb tc σ h Q = ta σ h fun x h1 => tb σ h1 fun y h2 => r x y h2 (asB fun k h3 => if k = true then tc σ h3 fun z h4 => r' y z h4 Q else Q (.bool false) h3) := rfl
theorem v_bits {i : Int} : bitsD (.int i) h Q = Q (.int (Builtin.Int.intBits i : Nat)) h := rfl
theorem v_iRg3 {t : A1} {R : List D1 → (MH → Prop) → MH → Prop} : iRg3 t σ h R = t σ h fun ds h1 => rg3 ds h1 R := rfl
theorem v_rg3 {i j c : Int} {R : List D1 → (MH → Prop) → MH → Prop} : rg3 [.int i, .int j, .int c] h R = ∃ n, RgC i j c n ∧ R (rgC i c n) (fun _ => True) h := rfl
theorem v_iRg2 {t : A1} {R : List D1 → (MH → Prop) → MH → Prop} : iRg2 t σ h R = t σ h fun ds h1 => rg2 ds h1 R := rfl
theorem v_rg2 {i j : Int} {R : List D1 → (MH → Prop) → MH → Prop} : rg2 [.int i, .int j] h R = ((-(2 ^ 62) ≤ i ∧ i < 2 ^ 62 ∧ -(2 ^ 62) ≤ j ∧ j < 2 ^ 62) ∧ R (rgD i (j - i).toNat) (fun _ => True) h) := rfl
theorem v_iEn {t : A1} {R : List D1 → (MH → Prop) → MH → Prop} : iEn t σ h R = t σ h fun ds h1 => enK ds h1 R := rfl
theorem v_enT {xs : List D1} {R : List D1 → (MH → Prop) → MH → Prop} : enK [.tup xs] h R = R (enD 0 xs) (fun _ => True) h := rfl
theorem v_enR {a : Addr} {R : List D1 → (MH → Prop) → MH → Prop} : enK [.ref a] h R = enO a h R (h a) := rfl
theorem v_enO {a : Addr} {xs : List D1} {R : List D1 → (MH → Prop) → MH → Prop} : enO a h R (some (.lst xs)) = R (enD 0 xs) (stabO a xs) h := rfl
theorem v_iZp {t : A1} {R : List D1 → (MH → Prop) → MH → Prop} : iZp t σ h R = t σ h fun ds h1 => zpK ds h1 R := rfl
theorem v_zpT {xs ys : List D1} {R : List D1 → (MH → Prop) → MH → Prop} : zpK [.tup xs, .tup ys] h R = R (zpD xs ys) (fun _ => True) h := rfl
theorem v_zpR {a b : Addr} {R : List D1 → (MH → Prop) → MH → Prop} : zpK [.ref a, .ref b] h R = zpO a b h R (h a) (h b) := rfl
theorem v_zpO {a b : Addr} {xs ys : List D1} {R : List D1 → (MH → Prop) → MH → Prop} : zpO a b h R (some (.lst xs)) (some (.lst ys)) = R (zpD xs ys) (fun h => stabO a xs h ∧ stabO b ys h) h := rfl
theorem v_repr {x : D1} : reprD x h Q = (pure? 60 x = true ∧ (pd x).showable = true ∧ (pd x).shown.length ≤ sizeLine ∧ Q (.str (pd x).shown) h) := rfl
theorem v_strI {i : Int} : strD (.int i) h Q = (i.natAbs.log2 < 1920 ∧ Q (.str (Str.ofString (toString i))) h) := rfl
theorem v_strS {z : Str} : strD (.str z) h Q = Q (.str z) h := rfl
theorem v_addR {p q : Addr} : addD (.ref p) (.ref q) h Q = ∃ a b, h p = some (.lst a) ∧ h q = some (.lst b) ∧ a.length + b.length ≤ sizeLine ∧ ∀ l, h l = none → Q (.ref l) (up h l (.lst (a ++ b))) := rfl
theorem v_and {i j : Int} : andD (.int i) (.int j) h Q = Q (.int (Builtin.bitAnd i j)) h := rfl
theorem v_slR {a : Addr} {lo hi : Option Int} : slD (.ref a) lo hi h Q = slL h lo hi Q (h a) := rfl
theorem v_slL {ds : List D1} {lo hi : Option Int} : slL h lo hi Q (some (.lst ds)) = ∀ l, h l = none → Q (.ref l) (up h l (.lst (cutD ds lo hi))) := rfl
theorem v_ltS {i j : Str} : ltD (.str i) (.str j) h Q = Q (.bool (ltS i j)) h := rfl
theorem v_isi {x : D1} {n : String} : isiD x (.ty n) h Q = isiK n (fun b => Q (.bool b) h) (tyN h x) := rfl
theorem v_srtT {ds : List D1} : sortedD (.tup ds) h Q = sortK ds h Q := rfl
theorem v_srtR {a : Addr} : sortedD (.ref a) h Q = sortO h Q (h a) := rfl
theorem v_srtO {ds : List D1} : sortO h Q (some (.lst ds)) = sortK ds h Q := rfl
theorem v_srtD {kvs : Kvs} : sortO h Q (some (.dic kvs)) = sortK (kvs.map (·.1)) h Q := rfl
theorem v_revR {a : Addr} : revD (.ref a) h Q = lstK (fun xs => ∀ p, h p = none → Q (.ref p) (up h p (.lst xs.reverse))) (h a) := rfl
theorem e_split {to te : E1} : dSplit to te σ h Q = to σ h fun x h1 => (∃ z, x = .str z) ∧ te σ h1 fun y h2 => splitD x y h2 Q := rfl
theorem v_split {a b : Str} : splitD (.str a) (.str b) h Q = ((b.length == 0) = false ∧ a.length + 2 ≤ sizeLine ∧ newStrs (Txt.split a b) h Q) := rfl
theorem v_words {a : Str} : wordsD (.str a) h Q = (a.length + 2 ≤ sizeLine ∧ newStrs (Txt.words a) h Q) := rfl
theorem v_index {a : Addr} {y : D1} : indexD (.ref a) [y] h Q = lstK (fun xs => pure? 60 y = true ∧ pures? 60 xs = true ∧ ∃ (j : Nat) (z : D1), xs[j]? = some z ∧ eqF z y = true ∧ (∀ (m : Nat) (z' : D1), m < j → xs[m]? = some z' → eqF z' y = false) ∧ Q (.int (j : Nat)) h) (h a) := rfl
theorem v_iZs {t : A1} {R : List D1 → (MH → Prop) → MH → Prop} : iZs t σ h R = t σ h fun ds h1 => zsK ds h1 R := rfl
theorem v_zsT {xs : List D1} {z : Str} {R : List D1 → (MH → Prop) → MH → Prop} : zsK [.tup xs, .str z] h R = R (zpD xs (signs z)) (fun _ => True) h := rfl
theorem v_revT {ds : List D1} : revD (.tup ds) h Q = Q (.tup ds.reverse) h := rfl
theorem v_isB {a b : Bool} : isD (.bool a) (.bool b) h Q = Q (.bool (decide (a = b))) h := rfl
theorem v_mulR {p : Addr} {k : Int} : mulD (.ref p) (.int k) h Q = ∃ a, h p = some (.lst a) ∧ (-(2 ^ 63) ≤ k ∧ k < 2 ^ 63) ∧ a.length * k.toNat ≤ sizeLine ∧ ∀ l, h l = none → Q (.ref l) (up h l (.lst (List.replicate k.toNat a).flatten)) := rfl
theorem v_all {p : Addr} {ds : List D1} {bs : List Bool} (e : h p = some (.lst ds)) (f : blsOf ds = some bs) (q : Q (.bool (bs.all id)) h) : allD (.ref p) h Q := by
  unfold allD blsK
  show seqK _ (seqO (h p))
  rw [e]
  exact ⟨bs, f, q⟩
theorem v_any {p : Addr} {ds : List D1} {bs : List Bool} (e : h p = some (.lst ds)) (f : blsOf ds = some bs) (q : Q (.bool (bs.any id)) h) : anyD (.ref p) h Q := by
  unfold anyD blsK
  show seqK _ (seqO (h p))
  rw [e]
  exact ⟨bs, f, q⟩
end
end DL
namespace DL
open PySem PySem.Spec PyProof.Rows L2
/-! ### the state of the draws -/
/-- the five places of a draw's list: the cells' list at c, a place that is no number below 0, two numbers and a 3 -/
def DrO (c : Addr) (o : MO) : Prop := ∃ p acc r : Int, 0 ≤ p ∧ o = .lst [.ref c, .int p, .int acc, .int r, .int 3]
structure Dr (a c : Addr) (cs : List Int) (h : MH) : Prop where
  st : ∃ o, h a = some o ∧ DrO c o
  ce : h c = some (.lst (cs.map D.int))
theorem Dr.ne {a c : Addr} {cs : List Int} {h : MH} (d : Dr a c cs h) : c ≠ a := by
  obtain ⟨o, e, p, acc, r, _, rfl⟩ := d.st
  intro z
  have f := d.ce
  rw [z, e] at f
  cases cs with
  | nil => cases f
  | cons x xs => cases f
theorem Dr.up {a c : Addr} {cs : List Int} {h : MH} (d : Dr a c cs h) {o : MO} (k : DrO c o) : Dr a c cs (up h a o) :=
  ⟨⟨o, up_same, k⟩, by rw [up_ne d.ne]; exact d.ce⟩
theorem Dr.new {a c : Addr} {cs : List Int} {h : MH} (d : Dr a c cs h) {l : Addr} (n : h l = none) {o : MO} : Dr a c cs (DL.up h l o) := by
  obtain ⟨u, e, k⟩ := d.st
  exact ⟨⟨u, by rw [up_ne (fun z => by rw [← z, e] at n; cases n)]; exact e, k⟩, by rw [up_ne (fun z => by rw [← z, d.ce] at n; cases n)]; exact d.ce⟩
theorem Dr.put {a c : Addr} {cs : List Int} {h : MH} (d : Dr a c cs h) {l : Addr} (n1 : a ≠ l) (n2 : c ≠ l) {o : MO} : Dr a c cs (DL.up h l o) := by
  obtain ⟨u, e, k⟩ := d.st
  exact ⟨⟨u, by rw [up_ne n1]; exact e, k⟩, by rw [up_ne n2]; exact d.ce⟩
def sp__law_draw : P1 := fun ds h Q => ∃ a c cs many, ds = [.ref a, .int many] ∧ 0 < many ∧ many < 2 ^ 64 ∧ Dr a c cs h ∧ ∀ r o, 0 ≤ r → r < many → DrO c o → Q (.int r) (up h a o)
def sp__law_begin : P1 := fun ds h Q => ∃ cs : List Int, ds = [.rol (cs.map D.int)] ∧ cs.length ≤ 63 ∧ ∀ a c o, h a = none → h c = none → a ≠ c → DrO c o → Q (.ref a) (up (up h c (.lst (cs.map D.int))) a o)
theorem divOk_of {j : Int} (h : 0 < j) (h2 : j < 2 ^ 64) : divOk j := by
  exact wide_div (i := 0) (b := 64) h (by omega) (by decide) (by decide)
theorem up_id {h : MH} {a : Addr} {o : MO} (e : h a = some o) : up h a o = h := by
  funext b; unfold up; split
  · rename_i z; rw [z, e]
  · rfl
/-- a row of draws -/
theorem lcT_draws {h : MH} {a c : Addr} {cs : List Int} (d : Dr a c cs h) (P : D → Prop) {xs : List D} {g : G1} {te : E1} {vs : List Nat} {σ : Sl} {Q : KD} (hz : xs.length ≤ sizeLine)
    (he : ∀ (i : Nat) (x : D) (o : MO) (Q' : KD), xs[i]? = some x → DrO c o → (∀ y o', P y → DrO c o' → Q' y (up h a o')) → g x (wipeD σ vs) (up h a o) fun σ2 h2 => te σ2 h2 Q')
    (fin : ∀ (acc : List D) (o : MO) (p : Addr), acc.length = xs.length → (∀ y ∈ acc, P y) → DrO c o → up h a o p = none → Q (.ref p) (up (up h a o) p (.lst acc))) : lcT xs (fun _ => True) g dYes te vs σ Q h := by
  obtain ⟨o0, e0, k0⟩ := d.st
  refine ⟨hz, fun i acc hh => ∃ o, hh = up h a o ∧ DrO c o ∧ acc.length = i ∧ ∀ y ∈ acc, P y, ⟨h, le.refl, o0, (up_id e0).symm, k0, rfl, by simp⟩, fun _ _ _ _ => trivial, ?_, ?_⟩
  · rintro i x acc hh hx ⟨o, rfl, k, hl, hP⟩
    refine he i x o (fun y h4 => ∃ h5, le h5 h4 ∧ ∃ o, h5 = up h a o ∧ DrO c o ∧ (acc ++ [y]).length = i + 1 ∧ ∀ z ∈ acc ++ [y], P z) hx k fun y o' hy k' => ⟨_, le.refl, o', rfl, k', by rw [List.length_append, hl]; rfl, fun z hz => ?_⟩
    rcases List.mem_append.mp hz with hz | hz
    · exact hP z hz
    · rw [List.mem_singleton.mp hz]; exact hy
  · rintro acc hh ⟨o, rfl, k, hl, hP⟩ p np
    exact fin acc o p hl hP k np
/-! ### pick -/
def rowOf (h : MH) : D → Option (List D)
  | .str z => some (signs z)
  | .tup ds => some ds
  | .rol ds => some ds
  | .ref l => seqO (h l)
  | _ => none
theorem signs_len (z : Str) : (signs z).length = z.length := by unfold signs; rw [List.length_map]; exact Array.length_toList
theorem seqO_some {o : Option MO} {xs : List D} (e : seqO o = some xs) : o = some (.lst xs) := by
  cases o with
  | none => cases e
  | some u => cases u <;> first | (cases e; rfl) | (cases e; done)
theorem len_row {h : MH} {row : D} {xs : List D} {Q : KD} (e : rowOf h row = some xs) (q : Q (.int xs.length) h) : lenD row h Q := by
  cases row <;> try (cases e; done)
  case str z => cases e; rw [signs_len] at q; exact q
  case tup ds => cases e; exact q
  case rol ds => cases e; exact q
  case ref l =>
    have e : seqO (h l) = some xs := e
    rw [v_lenR, seqO_some e]; exact q
theorem ix_row {h : MH} {row : D} {xs : List D} {Q : KD} {k : Nat} {x : D} (e : rowOf h row = some xs) (hx : xs[k]? = some x) (q : Q x h) : ixD row (.int k) h Q := by
  cases row <;> try (cases e; done)
  case str z =>
    cases e
    unfold signs at hx
    rw [List.getElem?_map] at hx
    obtain ⟨c, hc, rfl⟩ := Option.map_eq_some_iff.mp hx
    rw [v_ixS, v_ixStr, atI_of rfl hc]; exact q
  case tup ds => cases e; rw [v_ixT, v_ixSeq, atI_of rfl hx]; exact q
  case rol ds => cases e; rw [v_ixL, v_ixSeq, atI_of rfl hx]; exact q
  case ref l =>
    have e : seqO (h l) = some xs := e
    rw [v_ixR, seqO_some e, v_ixO, v_ixSeq, atI_of rfl hx]; exact q
def sp__law_pick : P1 := fun ds h Q => ∃ a c cs row xs, ds = [.ref a, row] ∧ Dr a c cs h ∧ rowOf h row = some xs ∧ row ≠ .ref a ∧ xs ≠ [] ∧ xs.length < 2 ^ 64 ∧ ∀ x o, x ∈ xs → DrO c o → Q x (up h a o)
end DL
namespace DL
open PySem PySem.Spec PyProof.Rows L2
local macro_rules | `(tactic| walk_at "ev") => `(tactic| try simp only [e_seq, e_next, e_brk, e_cnt, e_drop, e_ret, e_retN, e_ifS, e_asg, e_gN, e_gSb, e_gTp, e_gCn, e_gNl, e_var, e_varK, e_nth0, e_nthS, e_put0, e_putS, e_c, e_op, e_un, e_call, e_nil, e_cons, e_tup, e_lst, e_test, e_asB, e_tru, e_andT, e_orT, e_notT, e_andV, e_orV, e_notV, e_if, e_aug, e_augS, e_sl, e_part, e_partK, e_noPart, e_bm0, e_bm, e_join, e_yes, e_wipe0, e_wipeS, e_lc, e_for, v_add, v_addS, v_addT, v_iadd, v_sub, v_mul, v_fdiv, v_mod, v_pow, v_shl, v_shr, v_neg, v_lt, v_le, v_gt, v_ge, v_eqI, v_neI, v_eqS, v_neS, v_inS, v_ninS, v_inT, v_ninT, v_inR, v_ninR, v_inSeq, v_seqO, v_seqR, v_seqT, v_seqL, v_ixR, v_ixT, v_ixL, v_ixS, v_atK, v_atSK, v_get, v_getL, v_getK, v_set, v_setL, v_setK, v_on1, v_on2, v_lenR, v_lenT, v_lenL, v_lenS, v_seqK, v_tuple, v_list, v_abs, v_intI, v_intB, v_okL, v_isLst, v_app, v_lstK, v_slS, v_slT, v_join, v_is, v_isnot, v_max, v_min, v_iSeq, v_srcT, v_srcL, v_srcS, v_srcR, v_srcO, v_iRg1, v_rg1, v_truN, v_truB, v_truI, v_truS, v_truR, v_truT, v_truRol, v_truL, v_inRol, v_ninRol, v_inO, v_inOd, v_inDic, v_ixO, v_ixOd, v_ixSeq, v_ixDic, v_dgetK, v_ixStr, v_getO, v_getOd, v_setO, v_setOd, v_setDic, v_lenO, v_lenOd, e_dic0, e_disp, e_pairs0, e_pairsS, e_chain, v_bits, v_iRg3, v_rg3, v_iRg2, v_rg2, v_iEn, v_enT, v_enR, v_enO, v_iZp, v_zpT, v_zpR, v_zpO, v_repr, v_strI, v_strS, v_addR, v_and, v_slR, v_slL, v_ltS, v_srtT, v_srtR, v_srtO, v_srtD, v_revR, v_revT, v_isB, v_iZs, v_zsT, e_split, v_split, v_words, v_index])
section
theorem nef {h : MH} {a b : Addr} {u : MO} (e : h b = some u) (n : h a = none) : b ≠ a := fun z => by rw [z, n] at e; cases e
theorem v_pop {h : MH} {Q : KD} {a : Addr} {i : Int} : popD (.ref a) [.int i] h Q = lstK (fun xs => ∃ k y, ixN xs.length i = some k ∧ xs[k]? = some y ∧ (-(2 ^ 63) ≤ i ∧ i < 2 ^ 63) ∧ Q y (up h a (.lst (xs.eraseIdx k)))) (h a) := rfl
theorem erase_perm {α : Type} : ∀ (l : List α) (j : Nat) (h : j < l.length), (l[j] :: l.eraseIdx j).Perm l
  | x :: r, 0, _ => List.Perm.refl _
  | x :: r, j + 1, h => by
    show (r[j]'(Nat.lt_of_succ_lt_succ h) :: x :: r.eraseIdx j).Perm (x :: r)
    exact (List.Perm.swap x _ _).trans ((erase_perm r j (Nat.lt_of_succ_lt_succ h)).cons x)
theorem divOk_2 : divOk 2 := divOk_of (by decide) (by decide)
theorem divOk_16 : divOk 16 := divOk_of (by decide) (by decide)
theorem mulOk_l {i j : Int} (h : -(2 ^ 64) < i ∧ i < 2 ^ 64) : mulOk i j := .inl h
theorem mulOk_r {i j : Int} (h : -(2 ^ 64) < j ∧ j < 2 ^ 64) : mulOk i j := .inr h
theorem isi_eval {h : MH} {Q : KD} {x : D} {t n : String} {b : Bool} (e : tyN h x = some t) (k : kitB t n = some b) : isiD x (.ty n) h Q = Q (.bool b) h := by
  show isiK n _ (tyN h x) = _
  rw [e]
  show kitK _ (kitB t n) = _
  rw [k]; rfl
/-- the type's name of what is pure -/
def tyP : D → String
  | .none => "NoneType"
  | .bool _ => "bool"
  | .int _ => "int"
  | .str _ => "str"
  | .tup _ => "tuple"
  | .rol _ => "list"
  | .ref _ => ""
  | .ty _ => ""
theorem ty_pure {n : Nat} {x : D} (p : pure? n x = true) (h : MH) : tyN h x = some (tyP x) := by
  cases x <;> first | rfl | (simp [pure?] at p)
theorem eqD_pure {x y : D} {h : MH} {Q : KD} (px : pure? 60 x = true) (py : pure? 60 y = true) : eqD x y h Q = Q (.bool (eqF x y)) h := by
  have v : ∀ {z : D}, pure? 60 z = true → view h z = some (pd z) := fun {z} p => by
    have : viewP z = some (pd z) := by unfold viewP; rw [if_pos p]
    cases z <;> first | exact this | (simp [pure?] at p)
  show eqvO (view h x) (view h y) _ = _
  rw [v px, v py]; rfl
theorem neD_pure {x y : D} {h : MH} {Q : KD} (px : pure? 60 x = true) (py : pure? 60 y = true) : neD x y h Q = Q (.bool (!eqF x y)) h := by
  have v : ∀ {z : D}, pure? 60 z = true → view h z = some (pd z) := fun {z} p => by
    have : viewP z = some (pd z) := by unfold viewP; rw [if_pos p]
    cases z <;> first | exact this | (simp [pure?] at p)
  show eqvO (view h x) (view h y) _ = _
  rw [v px, v py]; rfl
theorem v_eqIS {i : Int} {z : Str} {h : MH} {Q : KD} : eqD (.int i) (.str z) h Q = Q (.bool false) h := rfl
theorem v_neIS {i : Int} {z : Str} {h : MH} {Q : KD} : neD (.int i) (.str z) h Q = Q (.bool true) h := rfl
theorem v_eqB {a b : Bool} {h : MH} {Q : KD} : eqD (.bool a) (.bool b) h Q = Q (.bool (a == b)) h := rfl
theorem v_neB {a b : Bool} {h : MH} {Q : KD} : neD (.bool a) (.bool b) h Q = Q (.bool (!(a == b))) h := rfl
mutual
theorem pure_le : ∀ {n m : Nat}, n ≤ m → ∀ x : D, pure? n x = true → pure? m x = true
  | _, _, _, .none, _ => by simp [pure?]
  | _, _, _, .bool _, _ => by simp [pure?]
  | _, _, _, .int _, _ => by simp [pure?]
  | _, _, _, .str _, _ => by simp [pure?]
  | 0, _, _, .tup ds, p => by simp [pure?] at p
  | n + 1, 0, h, .tup ds, p => by omega
  | n + 1, m + 1, h, .tup ds, p => by
    have p' : pures? n ds = true := by simpa [pure?] using p
    simp only [pure?]; exact pures_le (by omega) ds p'
  | 0, _, _, .rol ds, p => by simp [pure?] at p
  | n + 1, 0, h, .rol ds, p => by omega
  | n + 1, m + 1, h, .rol ds, p => by
    have p' : pures? n ds = true := by simpa [pure?] using p
    simp only [pure?]; exact pures_le (by omega) ds p'
  | _, _, _, .ref _, p => by simp [pure?] at p
  | _, _, _, .ty _, p => by simp [pure?] at p
theorem pures_le : ∀ {n m : Nat}, n ≤ m → ∀ ds : List D, pures? n ds = true → pures? m ds = true
  | _, _, _, [], _ => by simp [pures?]
  | n, m, h, d :: ds, p => by
    have p' : pure? n d = true ∧ pures? n ds = true := by simpa [pures?] using p
    simp only [pures?, pure_le h d p'.1, pures_le h ds p'.2]; rfl
end
theorem pures_mem {n : Nat} {ds : List D} (p : pures? n ds = true) {x : D} (hx : x ∈ ds) : pure? n x = true := by
  rw [pures_all, List.all_eq_true] at p
  exact p x hx
/-! comprehensions over rows of one kind -/
section
variable {α : Type} {h : MH} {xs : List D} {stab : MH → Prop} {g : G1} {te : E1} {tt : T1} {vs : List Nat} {σ : Sl} {Q : KD}
theorem lcT_t (ys : List α) (e f : α → D) (ex : xs = ys.map e) (hz : ys.length ≤ sizeLine) (hs : stab h)
    (he : ∀ y ∈ ys, ∀ Q' : KD, (∀ h', le h h' → Q' (f y) h') → g (e y) (wipeD σ vs) h fun σ2 h2 => te σ2 h2 Q') (fin : ∀ p, h p = none → Q (.ref p) (up h p (.lst (ys.map f)))) : lcT xs stab g dYes te vs σ Q h := by
  subst ex
  refine ⟨by rw [List.length_map]; exact hz, fun i a hh => hh = h ∧ a = (ys.take i).map f, ⟨h, le.refl, rfl, rfl⟩, fun i a hh e => by rw [e.1]; exact hs, ?_, ?_⟩
  · rintro i x a hh hx ⟨rfl, rfl⟩
    rw [List.getElem?_map] at hx
    obtain ⟨y, hy, rfl⟩ := Option.map_eq_some_iff.mp hx
    obtain ⟨hi, ey⟩ := List.getElem?_eq_some_iff.mp hy
    refine he y (List.mem_of_getElem? hy) (fun z h4 => ∃ h5, le h5 h4 ∧ h5 = hh ∧ (ys.take i).map f ++ [z] = (ys.take (i + 1)).map f) fun h' l => ⟨hh, l, rfl, ?_⟩
    rw [List.take_succ_eq_append_getElem hi, List.map_append, ey]; rfl
  · rintro a hh ⟨rfl, rfl⟩ p np
    rw [List.length_map, List.take_length]
    exact fin p np
theorem lcT_tf (ys : List α) (e f : α → D) (P : α → Bool) (ex : xs = ys.map e) (hz : ys.length ≤ sizeLine) (hs : stab h)
    (he : ∀ y ∈ ys, ∀ (Q' : KD) (R : MH → Prop), (P y = true → ∀ h', le h h' → Q' (f y) h') → (P y = false → ∀ h', le h h' → R h') → g (e y) (wipeD σ vs) h fun σ2 h2 => tt σ2 h2 fun b h3 => if b = true then te σ2 h3 Q' else R h3)
    (fin : ∀ p, h p = none → Q (.ref p) (up h p (.lst ((ys.filter P).map f)))) : lcT xs stab g tt te vs σ Q h := by
  subst ex
  refine ⟨by rw [List.length_map]; exact hz, fun i a hh => hh = h ∧ a = ((ys.take i).filter P).map f, ⟨h, le.refl, rfl, rfl⟩, fun i a hh e => by rw [e.1]; exact hs, ?_, ?_⟩
  · rintro i x a hh hx ⟨rfl, rfl⟩
    rw [List.getElem?_map] at hx
    obtain ⟨y, hy, rfl⟩ := Option.map_eq_some_iff.mp hx
    obtain ⟨hi, ey⟩ := List.getElem?_eq_some_iff.mp hy
    refine he y (List.mem_of_getElem? hy) (fun z h4 => ∃ h5, le h5 h4 ∧ h5 = hh ∧ ((ys.take i).filter P).map f ++ [z] = ((ys.take (i + 1)).filter P).map f) (fun h4 => ∃ h5, le h5 h4 ∧ h5 = hh ∧ ((ys.take i).filter P).map f = ((ys.take (i + 1)).filter P).map f) (fun k h' l => ⟨hh, l, rfl, ?_⟩) fun k h' l => ⟨hh, l, rfl, ?_⟩
    · rw [List.take_succ_eq_append_getElem hi, List.filter_append, List.map_append, ey, List.filter_cons, if_pos k]; rfl
    · rw [List.take_succ_eq_append_getElem hi, List.filter_append, List.map_append, ey, List.filter_cons, if_neg (by rw [k]; exact Bool.false_ne_true), List.filter_nil, List.map_nil, List.append_nil]
  · rintro a hh ⟨rfl, rfl⟩ p np
    rw [List.length_map, List.take_length]
    exact fin p np
end
theorem rgD_0 (n : Nat) : rgD 0 n = (List.range n).map fun (i : Nat) => D.int i := by
  unfold rgD
  exact List.map_congr_left fun i _ => by rw [Int.zero_add]
theorem le_up {h : MH} {p : Addr} {o : MO} (n : h p = none) : le h (up h p o) := le.up n
theorem lh_le {Q : KD} {d : D} {h h' : MH} (l : le h h') (q : Q d h) : Lh Q d h' := ⟨h, l, q⟩
theorem all_bools {h : MH} {Q : KD} {p : Addr} {bs : List Bool} (q : Q (.bool (bs.all id)) (up h p (.lst (bs.map D.bool)))) : allD (.ref p) (up h p (.lst (bs.map D.bool))) Q := v_all up_same (blsOf_map bs) q
theorem pures_of {n : Nat} {ds : List D} (h : ∀ x ∈ ds, pure? n x = true) : pures? n ds = true := by
  rw [pures_all, List.all_eq_true]; exact h
theorem bnd62 {N : Nat} (h : N ≤ 1048576) : -(2 ^ 62) ≤ (N : Int) ∧ (N : Int) < 2 ^ 62 := by omega
theorem cut_to {α : Type} {f : α → D} {l : List α} {k : Nat} (h : k ≤ l.length) : cutD (l.map f) none (some (k : Int)) = (l.take k).map f := by
  unfold cutD
  rw [HT.sIx_nat, HT.sIx_none, List.length_map, Nat.min_eq_left h, List.drop_zero, Nat.sub_zero, List.map_take]
theorem cut_from {α : Type} {f : α → D} {l : List α} {k : Nat} (h : k ≤ l.length) : cutD (l.map f) (some (k : Int)) none = (l.drop k).map f := by
  unfold cutD
  rw [HT.sIx_nat, HT.sIx_none, List.length_map, Nat.min_eq_left h, ← List.map_drop, List.take_of_length_le (by rw [List.length_map, List.length_drop]; exact Nat.le_refl _)]
theorem up4 {h : MH} {a b : Addr} (n : a ≠ b) {x y z w : MO} : up (up (up (up h a x) b y) a z) b w = up (up h a z) b w := by
  funext c; unfold up; by_cases p : c = b <;> by_cases q : c = a <;> simp_all
theorem up3 {h : MH} {a b : Addr} (n : a ≠ b) {x y z : MO} : up (up (up h a x) b y) a z = up (up h a z) b y := by
  funext c; unfold up; by_cases p : c = b <;> by_cases q : c = a <;> simp_all
theorem sl_lt {n : Nat} (h : n ≤ 1000000) : n < sizeLine := Nat.lt_of_le_of_lt h (by decide)
theorem rg_len (n : Nat) : (rgD 0 ((n : Int)).toNat).length = n := by rw [Int.toNat_natCast, rgD_0, List.length_map, List.length_range]
theorem rg_at {n i : Nat} {x : D} (h : (rgD 0 ((n : Int)).toNat)[i]? = some x) : i < n ∧ x = .int (i : Nat) := by
  rw [Int.toNat_natCast, rgD_0, List.getElem?_map] at h
  obtain ⟨y, hy, rfl⟩ := Option.map_eq_some_iff.mp h
  obtain ⟨hl, e⟩ := List.getElem?_eq_some_iff.mp hy
  rw [List.length_range] at hl
  rw [List.getElem_range] at e
  subst e
  exact ⟨hl, rfl⟩
theorem cut_k {l : List D} {k : Nat} : cutD l none (some (k : Int)) = l.take k := by
  unfold cutD
  rw [HT.sIx_nat, HT.sIx_none, List.drop_zero, Nat.sub_zero]
  by_cases h : k ≤ l.length
  · rw [Nat.min_eq_left h]
  · rw [Nat.min_eq_right (by omega), List.take_length, List.take_of_length_le (by omega)]
/-! what draws and new things leave -/
structure Ext (h : MH) (a : Addr) (o : MO) (H : MH) : Prop where
  le_ : le (up h a o) H
  at_ : H a = some o
section
variable {h H : MH} {a l c : Addr} {o o' x : MO} {cs : List Int}
theorem Ext.start (e : h a = some o) : Ext h a o h := ⟨by rw [up_id e]; exact le.refl, e⟩
theorem Ext.draw (E : Ext h a o H) : Ext h a o' (up H a o') := ⟨fun y u hu => by
  by_cases z : y = a
  · subst z; rw [up_same] at hu ⊢; exact hu
  · rw [up_ne z] at hu ⊢; exact E.le_ y u (by rw [up_ne z]; exact hu), up_same⟩
theorem Ext.ne (E : Ext h a o H) (n : H l = none) : a ≠ l := nef E.at_ n
theorem Ext.new (E : Ext h a o H) (n : H l = none) : Ext h a o (up H l x) := ⟨E.le_.trans (le.up n), by rw [up_ne (E.ne n)]; exact E.at_⟩
theorem Ext.grow {H' : MH} (E : Ext h a o H) (w : le H H') : Ext h a o H' := ⟨E.le_.trans w, w _ _ E.at_⟩
theorem Ext.fresh (E : Ext h a o H) (n : H l = none) : h l = none := by
  cases z : h l with
  | none => rfl
  | some u =>
    have := E.le_ l u (by rw [up_ne (E.ne n).symm]; exact z)
    rw [n] at this; cases this
theorem Ext.get (E : Ext h a o H) {y : Addr} {u : MO} (e : h y = some u) (n : y ≠ a) : H y = some u := E.le_ y u (by rw [up_ne n]; exact e)
theorem Ext.dr (E : Ext h a o H) (d : Dr a c cs h) (k : DrO c o) : Dr a c cs H := ⟨⟨o, E.at_, k⟩, E.get d.ce d.ne⟩
theorem Ext.fin (E : Ext h a o H) : le (up (up h a o) l x) (up H l x) := le.up2 E.le_
end
theorem nats_of {K : Nat} : ∀ {acc : List D}, (∀ y ∈ acc, ∃ k : Nat, k < K ∧ y = .int k) → ∃ row : List Nat, acc = (row.map fun (x : Nat) => D.int x) ∧ (∀ x ∈ row, x < K) ∧ row.length = acc.length
  | [], _ => ⟨[], rfl, by simp, rfl⟩
  | y :: r, h => by
    obtain ⟨k, hk, rfl⟩ := h y (by simp)
    obtain ⟨row, e, hr, hl⟩ := nats_of (acc := r) fun z hz => h z (by simp [hz])
    refine ⟨k :: row, by rw [e]; rfl, fun x hx => ?_, by rw [List.length_cons, List.length_cons, hl]⟩
    rcases List.mem_cons.mp hx with rfl | hx
    · exact hk
    · exact hr x hx
theorem lcT_any {α : Type} {h : MH} {xs : List D} {stab : MH → Prop} {g : G1} {te : E1} {vs : List Nat} {σ : Sl} {Q : KD} (P : D → Prop) (ys : List α) (e : α → D) (ex : xs = ys.map e) (hz : ys.length ≤ sizeLine) (hs : stab h)
    (he : ∀ y ∈ ys, ∀ Q' : KD, (∀ z h', P z → le h h' → Q' z h') → g (e y) (wipeD σ vs) h fun σ2 h2 => te σ2 h2 Q') (fin : ∀ acc p, acc.length = ys.length → (∀ z ∈ acc, P z) → h p = none → Q (.ref p) (up h p (.lst acc))) : lcT xs stab g dYes te vs σ Q h := by
  subst ex
  refine ⟨by rw [List.length_map]; exact hz, fun i a hh => hh = h ∧ a.length = i ∧ ∀ z ∈ a, P z, ⟨h, le.refl, rfl, rfl, by simp⟩, fun i a hh e => by rw [e.1]; exact hs, ?_, ?_⟩
  · rintro i x a hh hx ⟨rfl, rfl, hp⟩
    rw [List.getElem?_map] at hx
    obtain ⟨y, hy, rfl⟩ := Option.map_eq_some_iff.mp hx
    refine he y (List.mem_of_getElem? hy) (fun z h4 => ∃ h5, le h5 h4 ∧ h5 = hh ∧ (a ++ [z]).length = a.length + 1 ∧ ∀ w ∈ a ++ [z], P w) fun z h' pz l => ⟨hh, l, rfl, by rw [List.length_append]; rfl, fun w hw => ?_⟩
    rcases List.mem_append.mp hw with hw | hw
    · exact hp w hw
    · rw [List.mem_singleton.mp hw]; exact pz
  · rintro a hh ⟨rfl, hl, hp⟩ p np
    rw [List.length_map] at hl
    exact fin a p hl hp np
theorem v_sum {p : Addr} {h : MH} {Q : KD} {is : List Int} (e : h p = some (.lst (is.map D.int))) (q : Q (.int is.sum) h) : sumD (.ref p) h Q := by
  show seqK _ (seqO (h p))
  rw [e]
  exact ⟨is, intsOf_map is, q⟩
theorem sum_le : ∀ (ws : List Int) (m : Int), 0 ≤ m → (∀ w ∈ ws, 0 ≤ w ∧ w ≤ m) → 0 ≤ ws.sum ∧ ws.sum ≤ m * ws.length
  | [], m, _, _ => by simp
  | w :: r, m, hm, h => by
    obtain ⟨a, b⟩ := sum_le r m hm fun x hx => h x (by simp [hx])
    obtain ⟨c, d⟩ := h w (by simp)
    rw [List.sum_cons, List.length_cons]
    refine ⟨by omega, ?_⟩
    have : m * ((r.length + 1 : Nat) : Int) = m * (r.length : Int) + m := by rw [Int.natCast_add, Int.mul_add]; simp
    omega
theorem set_map_range (f : Nat → D) (m p : Nat) (y : D) : ((List.range m).map f).set p y = (List.range m).map fun q => if q = p then y else f q := by
  apply List.ext_getElem?
  intro i
  rw [List.getElem?_map]
  by_cases h : i < m
  · rw [List.getElem?_range h]
    by_cases e : i = p
    · subst e
      rw [List.getElem?_set_self (by rw [List.length_map, List.length_range]; exact h)]
      simp
    · rw [List.getElem?_set_ne (Ne.symm e), List.getElem?_map, List.getElem?_range h]
      simp [e]
  · rw [List.getElem?_eq_none (by rw [List.length_set, List.length_map, List.length_range]; omega), List.getElem?_eq_none (by rw [List.length_range]; omega)]
    rfl
theorem v_maxL {p : Addr} {h : MH} {Q : KD} {is : List Int} (e : h p = some (.lst (is.map D.int))) (ne : 0 < is.length) (q : ∀ m, m ∈ is → (∀ y, y ∈ is → y ≤ m) → Q (.int m) h) : maxLD (.ref p) h Q := by
  show seqK _ (seqO (h p))
  rw [e]
  exact ⟨is, intsOf_map is, ne, q⟩
end
end DL
namespace DL
open PySem PySem.Spec PyProof.Rows L2
/-! what a def that draws has laid: ws are its own things (new since h), in hh; the rest of h stands, but for the draws' list -/
structure LV (h : MH) (a c : Addr) (cs : List Int) (hh : MH) (ws : List (Addr × MO)) : Prop where
  dr0 : Dr a c cs h
  ext : ∃ o, DrO c o ∧ Ext h a o hh
  at_ : ∀ p ∈ ws, hh p.1 = some p.2
  fr : ∀ p ∈ ws, h p.1 = none
  nd : (ws.map (·.1)).Nodup
section
variable {h hh : MH} {a c p l : Addr} {cs : List Int} {ws : List (Addr × MO)} {o x y : MO} {Q : KD}
theorem LV.start (d : Dr a c cs h) : LV h a c cs h [] := by
  obtain ⟨o, e, k⟩ := d.st
  exact ⟨d, ⟨o, k, Ext.start e⟩, by simp, by simp, by simp⟩
theorem LV.dr (L : LV h a c cs hh ws) : Dr a c cs hh := let ⟨_, k, E⟩ := L.ext; E.dr L.dr0 k
theorem LV.old (L : LV h a c cs hh ws) {b : Addr} {u : MO} (e : h b = some u) (n : b ≠ a) : hh b = some u := let ⟨_, _, E⟩ := L.ext; E.get e n
theorem LV.mem (L : LV h a c cs hh ws) (m : (l, x) ∈ ws) : hh l = some x := L.at_ _ m
theorem LV.get (L : LV h a c cs hh ws) (i : Nat) (e : ws[i]? = some (l, x)) : hh l = some x := L.at_ _ (List.mem_of_getElem? e)
theorem LV.ne (L : LV h a c cs hh ws) (n : hh p = none) : p ≠ a := let ⟨_, _, E⟩ := L.ext; (E.ne n).symm
theorem LV.na (L : LV h a c cs hh ws) (m : (l, x) ∈ ws) : l ≠ a := fun z => by
  obtain ⟨o, e, _⟩ := L.dr0.st
  have := L.fr _ m
  rw [show (l, x).1 = a from z, e] at this; cases this
theorem LV.fresh (L : LV h a c cs hh ws) (n : hh p = none) : h p = none := let ⟨_, _, E⟩ := L.ext; E.fresh n
theorem LV.new (L : LV h a c cs hh ws) (n : hh p = none) (x : MO) : LV h a c cs (up hh p x) ((p, x) :: ws) := by
  obtain ⟨o, k, E⟩ := L.ext
  refine ⟨L.dr0, ⟨o, k, E.new n⟩, fun q hq => ?_, fun q hq => ?_, ?_⟩
  · rcases List.mem_cons.mp hq with rfl | hq
    · exact up_same
    · have e := L.at_ q hq
      rw [up_ne (nef e n)]; exact e
  · rcases List.mem_cons.mp hq with rfl | hq
    · exact E.fresh n
    · exact L.fr q hq
  · rw [List.map_cons, List.nodup_cons]
    refine ⟨fun hm => ?_, L.nd⟩
    obtain ⟨q, hq, e⟩ := List.mem_map.mp hm
    have := L.at_ q hq
    rw [e, n] at this; cases this
theorem LV.drawn (L : LV h a c cs hh ws) (k : DrO c o) : LV h a c cs (up hh a o) ws := by
  obtain ⟨o0, k0, E⟩ := L.ext
  refine ⟨L.dr0, ⟨o, k, E.draw⟩, fun q hq => ?_, L.fr, L.nd⟩
  rw [up_ne (L.na (x := q.2) hq)]; exact L.at_ q hq
theorem LV.set (L : LV h a c cs hh ws) (i : Nat) (e : ws[i]? = some (l, x)) (y : MO) : LV h a c cs (up hh l y) (ws.set i (l, y)) := by
  obtain ⟨o, k, E⟩ := L.ext
  have m := List.mem_of_getElem? e
  have hl : h l = none := L.fr _ m
  have la : l ≠ a := L.na m
  have E' : Ext h a o (up hh l y) := by
    refine ⟨fun b u q => ?_, by rw [up_ne la.symm]; exact E.at_⟩
    by_cases z : b = l
    · subst z; rw [up_ne la, hl] at q; cases q
    · rw [up_ne z]; exact E.le_ b u q
  have hi := (List.getElem?_eq_some_iff.mp e).1
  have ei := (List.getElem?_eq_some_iff.mp e).2
  have emap : (ws.set i (l, y)).map (·.1) = ws.map (·.1) := by
    rw [List.map_set]
    refine List.ext_getElem? fun j => ?_
    by_cases z : j = i
    · subst z
      rw [List.getElem?_set_self (by rw [List.length_map]; exact hi), List.getElem?_map, e]; rfl
    · rw [List.getElem?_set_ne (Ne.symm z)]
  refine ⟨L.dr0, ⟨o, k, E'⟩, fun q hq => ?_, fun q hq => ?_, by rw [emap]; exact L.nd⟩
  · obtain ⟨j, hj⟩ := List.getElem?_of_mem hq
    by_cases z : j = i
    · subst z
      rw [List.getElem?_set_self hi] at hj
      cases hj
      exact up_same
    · rw [List.getElem?_set_ne (Ne.symm z)] at hj
      have ql : q.1 ≠ l := fun w => by
        have n1 := L.nd
        have e1 : (ws.map (·.1))[j]? = some l := by rw [List.getElem?_map, hj, ← w]; rfl
        have e2 : (ws.map (·.1))[i]? = some l := by rw [List.getElem?_map, e]; rfl
        have h1 := (List.getElem?_eq_some_iff.mp e1)
        have h2 := (List.getElem?_eq_some_iff.mp e2)
        obtain ⟨a1, b1⟩ := h1
        obtain ⟨a2, b2⟩ := h2
        exact z ((List.getElem_inj n1).mp (b1.trans b2.symm))
      rw [up_ne ql]; exact L.at_ q (List.mem_of_getElem? hj)
  · obtain ⟨j, hj⟩ := List.getElem?_of_mem hq
    by_cases z : j = i
    · subst z
      rw [List.getElem?_set_self hi] at hj
      cases hj
      exact hl
    · rw [List.getElem?_set_ne (Ne.symm z)] at hj
      exact L.fr q (List.mem_of_getElem? hj)
/-- fewer things are told -/
theorem LV.sub (L : LV h a c cs hh ws) {vs : List (Addr × MO)} (s : vs.Sublist ws) : LV h a c cs hh vs := ⟨L.dr0, L.ext, fun p hp => L.at_ p (s.subset hp), fun p hp => L.fr p (s.subset hp), (s.map _).nodup L.nd⟩
theorem LV.perm (L : LV h a c cs hh ws) {vs : List (Addr × MO)} (p : ws.Perm vs) : LV h a c cs hh vs := ⟨L.dr0, L.ext, fun q hq => L.at_ q (p.symm.subset hq), fun q hq => L.fr q (p.symm.subset hq), (p.map _).nodup_iff.mp L.nd⟩
theorem LV.tl {w : Addr × MO} (L : LV h a c cs hh (w :: ws)) : LV h a c cs hh ws := L.sub (List.sublist_cons_self w ws)
theorem LV.nil (L : LV h a c cs hh ws) : LV h a c cs hh [] := L.sub (List.nil_sublist ws)
theorem LV.kp {w v : Addr × MO} (L : LV h a c cs hh (w :: v :: ws)) : LV h a c cs hh (w :: ws) := L.sub ((List.sublist_cons_self v ws).cons_cons w)
/-- readers of it -/
theorem LV.newE (L : LV h a c cs hh ws) {h1 : MH} (n : hh p = none) (e : up hh p x = h1) : LV h a c cs h1 ((p, x) :: ws) := e ▸ L.new n x
theorem LV.draw (L : LV h a c cs hh ws) {n : Int} (hn : 0 < n) (hn2 : n < 2 ^ 64) (q : ∀ r h1, 0 ≤ r → r < n → LV h a c cs h1 ws → Q (.int r) h1) : sp__law_draw [.ref a, .int n] hh Q :=
  ⟨a, c, cs, n, rfl, hn, hn2, L.dr, fun r o r0 r1 k => q r _ r0 r1 (L.drawn k)⟩
/-- one of a list that is at hand -/
theorem LV.pick (L : LV h a c cs hh ws) {xs : List D} (e : hh l = some (.lst xs)) (la : l ≠ a) (ne : xs ≠ []) (hl : xs.length < 2 ^ 64) (q : ∀ x ∈ xs, ∀ h1, LV h a c cs h1 ws → Q x h1) : sp__law_pick [.ref a, .ref l] hh Q :=
  ⟨a, c, cs, .ref l, xs, rfl, L.dr, (by show seqO (hh l) = _; rw [e]; rfl), (fun z => by cases z; exact la rfl), ne, hl, fun x o hx k => q x hx _ (L.drawn k)⟩
theorem LV.pickT (L : LV h a c cs hh ws) {xs : List D} (ne : xs ≠ []) (hl : xs.length < 2 ^ 64) (q : ∀ x ∈ xs, ∀ h1, LV h a c cs h1 ws → Q x h1) : sp__law_pick [.ref a, .tup xs] hh Q :=
  ⟨a, c, cs, .tup xs, xs, rfl, L.dr, rfl, (fun z => by cases z), ne, hl, fun x o hx k => q x hx _ (L.drawn k)⟩
/-- one of a list that is written down -/
theorem LV.pickN (L : LV h a c cs hh ws) {xs : List D} (ne : xs ≠ []) (hl : xs.length < 100) (q : ∀ x ∈ xs, ∀ h1, LV h a c cs h1 ws → Q x h1) : ∀ p, hh p = none → sp__law_pick [.ref a, .ref p] (up hh p (.lst xs)) Q := fun p n =>
  (L.new n (.lst xs)).pick (up_same) (L.ne n) ne (by omega) fun x hx h1 L1 => q x hx h1 L1.tl
/-- the end -/
theorem LV.ret (L : LV h a c cs hh ws) {d : D} (q : ∀ o, DrO c o → Q d (up h a o)) : Lh Q d hh := let ⟨o, k, E⟩ := L.ext; ⟨_, E.le_, q o k⟩
theorem LV.retN (L : LV h a c cs hh ws) (m : (p, x) ∈ ws) {d : D} (q : ∀ o, DrO c o → h p = none → Q d (up (up h a o) p x)) : Lh Q d hh := by
  obtain ⟨o, k, E⟩ := L.ext
  refine ⟨_, ?_, q o k (L.fr _ m)⟩
  intro b u e
  by_cases z : b = p
  · subst z; rw [up_same] at e; cases e; exact L.at_ _ m
  · rw [up_ne z] at e; exact E.le_ b u e
end
end DL
namespace DL
open PySem PySem.Spec PyProof.Rows L2
/-! what has a value and changes nothing: proofs that grow with the text alone (a walk over a long list is too much for the kernel) -/
def Ev (t : E1) (σ : Sl) (h : MH) (x : D) : Prop := ∀ Q : KD, Q x h → t σ h Q
def EvA (t : A1) (σ : Sl) (h : MH) (xs : List D) : Prop := ∀ Q : List D → MH → Prop, Q xs h → t σ h Q
section
variable {σ : Sl} {h : MH} {x y z : D} {xs ys : List D} {t a b : E1} {ta r : A1} {i j : Int} {s u : Str} {Q : KD}
theorem Ev.c : Ev (dC x) σ h x := fun _ q => q
theorem Ev.var {k : Nat} (e : nth σ k = some x) : Ev (dVar k) σ h x := fun Q q => by rw [e_var, e]; exact q
theorem EvA.nil : EvA dNil σ h [] := fun _ q => q
theorem EvA.cons (ht : Ev t σ h x) (hr : EvA r σ h xs) : EvA (dCons t r) σ h (x :: xs) := fun Q q => ht _ (hr _ q)
theorem Ev.tup (ht : EvA ta σ h xs) (hl : xs.length ≤ sizeLine) : Ev (dTup ta) σ h (.tup xs) := fun Q q => ht _ ⟨hl, q⟩
theorem Ev.op {rr : R1} (ha : Ev a σ h x) (hb : Ev b σ h y) (hr : ∀ Q : KD, Q z h → rr x y h Q) : Ev (dOp rr a b) σ h z := fun Q q => ha _ (hb _ (hr Q q))
theorem Ev.un {rr : D → MH → KD → Prop} (ha : Ev a σ h x) (hr : ∀ Q : KD, Q z h → rr x h Q) : Ev (dUn rr a) σ h z := fun Q q => ha _ (hr Q q)
theorem Ev.call {rr : C1} (ha : EvA ta σ h xs) (hr : ∀ Q : KD, Q z h → rr xs h Q) : Ev (dCall rr ta) σ h z := fun Q q => ha _ (hr Q q)
theorem Ev.addI (ha : Ev a σ h (.int i)) (hb : Ev b σ h (.int j)) : Ev (dOp addD a b) σ h (.int (i + j)) := .op ha hb fun _ q => q
theorem Ev.subI (ha : Ev a σ h (.int i)) (hb : Ev b σ h (.int j)) : Ev (dOp subD a b) σ h (.int (i - j)) := .op ha hb fun _ q => q
theorem Ev.negI (ha : Ev a σ h (.int i)) : Ev (dUn negD a) σ h (.int (-i)) := .un ha fun _ q => q
theorem Ev.addS (ha : Ev a σ h (.str s)) (hb : Ev b σ h (.str u)) (hl : s.length + u.length ≤ sizeLine) : Ev (dOp addD a b) σ h (.str (s ++ u)) := .op ha hb fun _ q => ⟨hl, q⟩
theorem Ev.addT (ha : Ev a σ h (.tup xs)) (hb : Ev b σ h (.tup ys)) (hl : xs.length + ys.length ≤ sizeLine) : Ev (dOp addD a b) σ h (.tup (xs ++ ys)) := .op ha hb fun _ q => ⟨hl, q⟩
theorem Ev.eqI (ha : Ev a σ h (.int i)) (hb : Ev b σ h (.int j)) : Ev (dOp eqD a b) σ h (.bool (decide (i = j))) := .op ha hb fun _ q => by rw [v_eqI]; exact q
theorem Ev.intB {k : Bool} (ha : Ev a σ h (.bool k)) : Ev (dCall (on1 intD) (dCons a dNil)) σ h (.int (if k = true then 1 else 0)) := .call (.cons ha .nil) fun _ q => q
theorem Ev.ixT {k : Nat} (ha : Ev a σ h (.tup xs)) (hb : Ev b σ h (.int i)) (e : i = (k : Nat)) (hx : xs[k]? = some x) : Ev (dOp ixD a b) σ h x := .op ha hb fun Q q => by
  show atK (atI xs i) h Q
  rw [atI_of e hx]; exact q
theorem Ev.t0 : Ev (dTup dNil) σ h (.tup []) := .tup .nil (by decide)
theorem Ev.t1 (ha : Ev a σ h x) : Ev (dTup (dCons a dNil)) σ h (.tup [x]) := .tup (.cons ha .nil) (show 1 ≤ sizeLine by decide)
theorem Ev.t2 (ha : Ev a σ h x) (hb : Ev b σ h y) : Ev (dTup (dCons a (dCons b dNil))) σ h (.tup [x, y]) := .tup (.cons ha (.cons hb .nil)) (show 2 ≤ sizeLine by decide)
theorem Ev.t3 (ha : Ev a σ h x) (hb : Ev b σ h y) (hc : Ev t σ h z) : Ev (dTup (dCons a (dCons b (dCons t dNil)))) σ h (.tup [x, y, z]) := .tup (.cons ha (.cons hb (.cons hc .nil))) (show 3 ≤ sizeLine by decide)
theorem Ev.t4 {t' : E1} {w : D} (ha : Ev a σ h x) (hb : Ev b σ h y) (hc : Ev t σ h z) (hd : Ev t' σ h w) : Ev (dTup (dCons a (dCons b (dCons t (dCons t' dNil))))) σ h (.tup [x, y, z, w]) := .tup (.cons ha (.cons hb (.cons hc (.cons hd .nil)))) (show 4 ≤ sizeLine by decide)
theorem Ev.slTo (ha : Ev a σ h (.tup xs)) (hb : Ev b σ h (.int i)) : Ev (dSl a dNoPart (dPart b)) σ h (.tup (cutD xs none (some i))) := fun Q q => ha _ (hb _ q)
theorem Ev.slFrom (ha : Ev a σ h (.tup xs)) (hb : Ev b σ h (.int i)) : Ev (dSl a (dPart b) dNoPart) σ h (.tup (cutD xs (some i) none)) := fun Q q => ha _ (hb _ q)
/-- a name is set, and on -/
theorem Ev.set {k : Nat} {N : Nd} {v : S1} (e : Ev t σ h x) (q : v N (put σ k (some x)) h) : dSeq (dAsg t (gN k)) v N σ h := e _ q
theorem Ev.eq (e : Ev t σ h x) (z : x = y) : Ev t σ h y := z ▸ e
/-- a list that is written down -/
theorem Ev.lst (ht : EvA ta σ h xs) (hl : xs.length ≤ sizeLine) (q : ∀ p, h p = none → Q (.ref p) (up h p (.lst xs))) : dLst ta σ h Q := ht _ ⟨hl, q⟩
end
end DL
namespace DL
open PySem PySem.Spec PyProof.Rows L2
/-! ### classes of the program: instances by the class' name and their fields -/
theorem RoomG.make {k : Nat} {A : Around} (r : RoomG (k + 1) A) (C : Addr) (us : List Value) (kw : List (Str × Value)) : RoomG k (A.under (.builtin "type.__call__" ⟨.ref C :: us, kw⟩)) := ⟨r.r.make C us kw, r.g⟩
theorem RoomG.in1 {k : Nat} {A : Around} (r : RoomG (k + 1) A) : RoomG k A.in1 := ⟨r.r.in1, r.g⟩
section
variable {X : Cx} {k : Nat} {C f g p : Addr} {fd : FuncData} {ps : List Str} {sp : Sp} {E : XK} {m nm : Str}
theorem run_makeG {pins : List (Addr × Obj)} {σ : L2.St} {H : Hp} {s : Shared} {Q : VK} {us : List Value} {vs : List V} (M : Mk X.K C f) (F : FnG X.prog X.w X.K X.mg X.base k f fd ps sp) (hr : RoomG (k + 1) X.A) (hb : L2.Binds X.K fd ps [])
    (hx : Passes CX0 X E) (I : Inv X pins σ H s) (r : Vals vs us)
    (h : ∀ x dx, H x = none → H dx = none → dx ≠ x → sp (.ref x :: vs) (upd (upd H dx (.own x)) x (.ins C dx [])) (fun v H2 => v = .non ∧ Q (.ref x) H2) E) :
    wpAny (model X.prog X.w) X.A (call (.ref C) us) (EP X pins σ Q) X.xe s := by
  have hq := h (s.heap.objs.size + 1) s.heap.objs.size (I.hok.fresh (Nat.le_succ _)) (I.hok.fresh (Nat.le_refl _)) (Nat.ne_of_lt (Nat.lt_succ_self _))
  have I2 := Inv.made (C := C) I
  have r2 : Vals (V.ref (s.heap.objs.size + 1) :: vs) (Value.ref (s.heap.objs.size + 1) :: us) := .cons rfl r
  have hl : (Value.ref (s.heap.objs.size + 1) :: us ++ []).length = ps.length := by
    have e := r2.length
    rw [F.len _ _ _ _ hq] at e
    rw [List.append_nil]; exact e.symm
  have bt := hb _ (Value.ref (s.heap.objs.size + 1) :: us) I2.kIn hl
  rw [List.append_nil] at bt
  refine wpAny_call (make_map (f := f) I.kIn M.makes M.init (beq_iff_eq.mp M.fn) (codeAny_mono (F.run _ X.stack _ _ ⟨Value.ref (s.heap.objs.size + 1) :: us, []⟩ (Value.ref (s.heap.objs.size + 1) :: us) _ _ E (hr.make C us [])
    (I2.env0.make C us []) bt r2 hq) fun r s' hq' => ?_))
  cases r with
  | error e => exact hx pins σ _ _ e s' I2 hq'
  | ok fl =>
    cases fl with
    | ret u =>
      obtain ⟨v, H', I3, rv, ev, q3⟩ := I2.after hq'
      subst ev
      exact ⟨rv, ⟨V.ref (s.heap.objs.size + 1), H', I3, rfl, q3⟩⟩
    | next => exact False.elim hq'
    | brk => exact False.elim hq'
    | cont => exact False.elim hq'
theorem getprop_g {pins : List (Addr × Obj)} {σ : L2.St} {H : Hp} {s : Shared} {Q : VK} {b : Bool} {a dx : Addr} {fs : List (Str × V)} {E' : Value → Shared → Prop} (I : Inv X pins σ H s) (ea : H a = some (.ins C dx fs)) (c : Cls X.K C) (hp : PropOf X.K C nm p g)
    (F : FnG X.prog X.w X.K X.mg X.base k g fd ["self"] sp) (hr : RoomG (k + 1) X.A) (hb : L2.Binds X.K fd ["self"] []) (hx : Passes CX0 X.nox E) (h : sp [.ref a] H Q E) :
    wpAny (model X.prog X.w) X.A (getAttr (.ref a) nm b) (EP X pins σ Q) E' s := by
  obtain ⟨mA, O, _, _, _, _⟩ := ins_get I.hok ea
  obtain ⟨od, J, _⟩ := O.look
  obtain ⟨rest, hrec⟩ := hp.rec_
  have I1 := I.tok (s.toks + 1)
  have hc : (PySem.W.clsIn X.K C).isSome = true := by
    obtain ⟨cd, hc, _⟩ := PySem.W.any_some c.hd
    rw [hc]
    rfl
  have bt := hb { s with toks := s.toks + 1 } [.ref a] I1.kIn rfl
  rw [List.append_nil] at bt
  refine PySem.W.get_bind I.kIn J (PySem.W.plainGet_of (c.get nm)).1 (PySem.W.findObj_data hc hp.at_ hp.get hp.tak) (PySem.W.plainGet_of (c.get nm)).2 (wpAny_call (PySem.W.prop_get (s := { s with toks := s.toks + 1 }) I.kIn hrec ?_))
  refine codeAny_mono (F.run X.A.in1 X.stack { s with toks := s.toks + 1 } H ⟨[.ref a], []⟩ [.ref a] [.ref a] Q E hr.in1 I1.env0.in1 bt (.cons rfl .nil) h) fun r s' hq => ?_
  cases r with
  | error er => exact False.elim (hx pins σ H { s with toks := s.toks + 1 } er s' (I1.wish _) hq)
  | ok fl =>
    cases fl with
    | ret u =>
      obtain ⟨v, H', I3, rv, q3⟩ := I1.after hq
      show wpAny _ _ (handedOut u) _ _ _
      rw [PySem.W.handedOut_of (handed_of rv)]
      exact wpAny_pure ⟨v, H', I3, rv, q3⟩
    | next => exact False.elim hq
    | brk => exact False.elim hq
    | cont => exact False.elim hq
end
/-! facts of classes -/
/-- a field of a class' instances: no attribute of the class -/
structure FldF (K : PySem.W.Frag) (mg : Str → Option Value) (n f : Str) : Prop where
  ex : ∃ C, mg n = some (.ref C) ∧ Cls K C ∧ NoAttr K C f
structure PropG (P : Program) (w : World) (K : PySem.W.Frag) (mg : Str → Option Value) (base : Heap) (k : Nat) (n f : Str) (sp : P1) : Prop where
  ex : ∃ C p g fd, mg n = some (.ref C) ∧ Cls K C ∧ PropOf K C f p g ∧ FnG P w K mg base k g fd ["self"] (lowP ⟨K, w, mg⟩ sp) ∧ L2.Binds K fd ["self"] []
structure MethG (P : Program) (w : World) (K : PySem.W.Frag) (mg : Str → Option Value) (base : Heap) (k : Nat) (n m : Str) (sp : P1) : Prop where
  ex : ∃ C f fd ps, mg n = some (.ref C) ∧ Cls K C ∧ Meth K C m f ∧ FnG P w K mg base k f fd ps (lowP ⟨K, w, mg⟩ sp) ∧ L2.Binds K fd ps []
structure MakeG (P : Program) (w : World) (K : PySem.W.Frag) (mg : Str → Option Value) (base : Heap) (k : Nat) (n : Str) (sp : P1) : Prop where
  ex : ∃ C f fd ps, mg n = some (.ref C) ∧ Mk K C f ∧ FnG P w K mg base k f fd ps (lowP ⟨K, w, mg⟩ sp) ∧ L2.Binds K fd ps []
section
variable {P : Program} {w : World} {K : PySem.W.Frag} {mg : Str → Option Value} {base : Heap} {j k : Nat} {n m f : Str} {sp : P1}
theorem PropG.mono (G : PropG P w K mg base j n f sp) (h : j ≤ k) : PropG P w K mg base k n f sp := let ⟨C, p, g, fd, a, b, c, d, e⟩ := G.ex; ⟨C, p, g, fd, a, b, c, d.mono h, e⟩
theorem MethG.mono (G : MethG P w K mg base j n m sp) (h : j ≤ k) : MethG P w K mg base k n m sp := let ⟨C, p, g, ps, a, b, c, d, e⟩ := G.ex; ⟨C, p, g, ps, a, b, c, d.mono h, e⟩
theorem MakeG.mono (G : MakeG P w K mg base j n sp) (h : j ≤ k) : MakeG P w K mg base k n sp := let ⟨C, p, g, ps, a, b, d, e⟩ := G.ex; ⟨C, p, g, ps, a, b, d.mono h, e⟩
end
/-! readings -/
def putD : Str → D → List (Str × D) → List (Str × D)
  | f, y, [] => [(f, y)]
  | f, y, (g, x) :: r => if g = f then (g, y) :: r else (g, x) :: putD f y r
def attrD (f : Str) (ns : List Str) (ps : List (Str × P1)) (x : D) (h : MH) (Q : KD) : Prop := ∃ a n fs, x = .ref a ∧ h a = some (.ins n fs) ∧ ((n ∈ ns ∧ ∃ d, fs.lookup f = some d ∧ Q d h) ∨ ∃ sp, (n, sp) ∈ ps ∧ sp [.ref a] h Q)
def dAsgF (f : Str) (ns : List Str) (to tv : E1) : S1 := fun D σ h => tv σ h fun y h1 => to σ h1 fun x h2 => ∃ a n fs, x = .ref a ∧ h2 a = some (.ins n fs) ∧ n ∈ ns ∧ fs.length < 1000 ∧ D.nx σ (up h2 a (.ins n (putD f y fs)))
def dMake (n : Str) (sp : P1) (t : A1) : E1 := fun σ h Q => t σ h fun ds h1 => ∀ x, h1 x = none → sp (.ref x :: ds) (up h1 x (.ins n [])) fun v h2 => v = .none ∧ Q (.ref x) h2
def dMeth (m : Str) (es : List (Str × P1)) (to : E1) (t : A1) : E1 := fun σ h Q => to σ h fun x h1 => ∃ a n fs sp, x = .ref a ∧ h1 a = some (.ins n fs) ∧ fs.lookup m = none ∧ (n, sp) ∈ es ∧ t σ h1 fun ds h2 => sp (x :: ds) h2 Q
section
variable {K : KW} {H : Hp}
theorem fs_look {fs : List (Str × D)} {vs : List (Str × V)} {f : Str} (r : RepFs K H fs vs) : RO (RepV K H) (fs.lookup f) (vs.lookup f) := by
  induction r with
  | nil => exact True.intro
  | @cons p q _ _ h _ ih =>
    obtain ⟨a, x⟩ := p
    obtain ⟨b, y⟩ := q
    obtain ⟨e, rv⟩ := h
    simp only at e rv
    subst e
    rw [List.lookup_cons, List.lookup_cons]
    cases f == a with
    | true => exact rv
    | false => exact ih
theorem fs_put {fs : List (Str × D)} {vs : List (Str × V)} {f : Str} {d : D} {v : V} (rv : RepV K H d v) (r : RepFs K H fs vs) : RepFs K H (putD f d fs) (putF f v vs) := by
  induction r with
  | nil => exact .cons ⟨rfl, rv⟩ .nil
  | @cons p q ps qs h t ih =>
    obtain ⟨a, x⟩ := p
    obtain ⟨b, y⟩ := q
    obtain ⟨e, ry⟩ := h
    simp only at e ry
    subst e
    unfold putD putF
    by_cases z : a = f
    · rw [if_pos z, if_pos z]; exact .cons ⟨rfl, rv⟩ t
    · rw [if_neg z, if_neg z]; exact .cons ⟨rfl, ry⟩ ih
theorem fs_mono {H' : Hp} {fs : List (Str × D)} {vs : List (Str × V)} (m : Mo K H H') (r : RepFs K H fs vs) : RepFs K H' fs vs := P2.mono (fun _ _ z => ⟨z.1, RepV.mono m _ z.2⟩) r
end
section
variable {X : Cx} {k : Nat} {e o value : Expr} {f m : Str} {pos pos' apos : Pos} {t to tv : E1} {ta : A1} {ns : List Str} {n : Str} {qs : List (Str × P1)} {sp : P1} {es : List Expr}
theorem de_attr (he : DE X e t) (hb : attributeBase e f X.env (eval e X.env) = eval e X.env) (hF : ∀ n ∈ ns, FldF X.K X.mg n f) (hP : ∀ q ∈ qs, PropG X.prog X.w X.K X.mg X.base k q.1 f q.2) (hr : RoomG (k + 1) X.A) :
    DE X (.Attribute e f pos) (dUn (attrD f ns qs) t) := by
  refine ⟨fun pins s σV H QV I ⟨σ, h, Q, hE, hH, ht, hc⟩ => ?_⟩
  refine attr_of hb (thn (he.run pins s σV H (fun v H1 => ∃ d h1, Stp h H h1 H1 ∧ RepH X.kw h1 H1 ∧ RepV X.kw H1 d v ∧ attrD f ns qs d h1 Q) I ⟨σ, h, _, hE, hH, ht, fun d h1 v H1 s1 hH1 rv q => ⟨d, h1, s1, hH1, rv, q⟩⟩) fun u s1 ⟨x, H1, I1, rx, d, h1, st, hH1, rv, a, n, fs, ed, ea, q⟩ => ?_)
  subst ed
  cases (show x = .ref a from rv)
  obtain rfl : u = Value.ref a := rx
  obtain ⟨C, dx, vs, em, eH, rf⟩ := hH1 a _ ea
  have em : X.mg n = some (.ref C) := em
  rcases q with ⟨hn, d, ed, q⟩ | ⟨sp, hn, q⟩
  · obtain ⟨C', em', c, no⟩ := (hF n hn).ex
    rw [em] at em'
    cases em'
    obtain ⟨v, ev, rv⟩ := (fs_look (f := f) rf).some_ ed
    exact getattr_ok I1 eH c no ev fun u' s2 I2 ru => ⟨v, H1, I2, ru, hc d h1 v H1 st hH1 rv q⟩
  · obtain ⟨C', p, g, fd, em', c, hp, F, b⟩ := (hP (n, sp) hn).ex
    rw [em] at em'
    cases em'
    exact getprop_g I1 eH c hp F hr b pass0 (show lowC X.kw sp [.ref a] H1 QV from ⟨[.ref a], h1, Q, ⟨_, _, rfl, rfl, rfl⟩, hH1, q, hc.step st⟩)
theorem de_fldO (he : DE X e t) (hb : attributeBase e f X.env (eval e X.env) = eval e X.env) (hF : ∀ n ∈ ns, FldF X.K X.mg n f) : DE X (.Attribute e f pos) (dUn (attrD f ns []) t) := by
  refine ⟨fun pins s σV H QV I ⟨σ, h, Q, hE, hH, ht, hc⟩ => ?_⟩
  refine attr_of hb (thn (he.run pins s σV H (fun v H1 => ∃ d h1, Stp h H h1 H1 ∧ RepH X.kw h1 H1 ∧ RepV X.kw H1 d v ∧ attrD f ns [] d h1 Q) I ⟨σ, h, _, hE, hH, ht, fun d h1 v H1 s1 hH1 rv q => ⟨d, h1, s1, hH1, rv, q⟩⟩) fun u s1 ⟨x, H1, I1, rx, d, h1, st, hH1, rv, a, n, fs, ed, ea, q⟩ => ?_)
  subst ed
  cases (show x = .ref a from rv)
  obtain rfl : u = Value.ref a := rx
  obtain ⟨C, dx, vs, em, eH, rf⟩ := hH1 a _ ea
  have em : X.mg n = some (.ref C) := em
  rcases q with ⟨hn, d, ed, q⟩ | ⟨sp, hn, q⟩
  · obtain ⟨C', em', c, no⟩ := (hF n hn).ex
    rw [em] at em'
    cases em'
    obtain ⟨v, ev, rv⟩ := (fs_look (f := f) rf).some_ ed
    exact getattr_ok I1 eH c no ev fun u' s2 I2 ru => ⟨v, H1, I2, ru, hc d h1 v H1 st hH1 rv q⟩
  · cases hn
theorem ds_fld (ho : DE X o to) (hv : DE X value tv) (hF : ∀ n ∈ ns, FldF X.K X.mg n f) (hs : swapsWith value (some (.Attribute o f pos')) pos.line X.env = pure false) : DS X (.Assign [.Attribute o f pos'] value pos) (dAsgF f ns to tv) := by
  refine ⟨fun pins s σV H DV I ⟨D, σ, h, hE, hH, ht, hc⟩ => ?_⟩
  refine plainObj_wpAny_Assign_Attribute (thn (hv.run pins s σV H (fun v H1 => ∃ y h1, Stp h H h1 H1 ∧ RepH X.kw h1 H1 ∧ RepV X.kw H1 y v ∧ to σ h1 fun x h2 => ∃ a n fs, x = .ref a ∧ h2 a = some (.ins n fs) ∧ n ∈ ns ∧ fs.length < 1000 ∧ D.nx σ (up h2 a (.ins n (putD f y fs)))) I
    ⟨σ, h, _, hE, hH, ht, fun d h1 v H1 s1 hH1 rv q => ⟨d, h1, s1, hH1, rv, q⟩⟩) fun u s1 ⟨yv, H1, I1, ry, y, h1, st1, hH1, rvy, q⟩ => ?_) hs
  have hE1 := hE.mono (Stp.mo hH st1)
  refine thn (ho.run pins s1 σV H1 (fun v H2 => ∃ d h2, Stp h1 H1 h2 H2 ∧ RepH X.kw h2 H2 ∧ RepV X.kw H2 d v ∧ ∃ a n fs, d = .ref a ∧ h2 a = some (.ins n fs) ∧ n ∈ ns ∧ fs.length < 1000 ∧ D.nx σ (up h2 a (.ins n (putD f y fs)))) I1
    ⟨σ, h1, _, hE1, hH1, q, fun d h2 v H2 s2 hH2 rv q => ⟨d, h2, s2, hH2, rv, q⟩⟩) fun ov s2 ⟨x, H2, I2, rx, d, h2, st2, hH2, rv, a, n, fs, ed, ea, hn, hl, q2⟩ => ?_
  subst ed
  cases (show x = .ref a from rv)
  obtain rfl : ov = Value.ref a := rx
  obtain ⟨C, dx, vs, em, eH, rf⟩ := hH2 a _ ea
  have em : X.mg n = some (.ref C) := em
  obtain ⟨C', em', c, no⟩ := (hF n hn).ex
  rw [em] at em'
  cases em'
  have m2 := Stp.mo hH1 st2
  have rvy2 := RepV.mono m2 _ rvy
  refine setattr_ok I2 eH c no (by rw [← Paired.length rf]; exact hl) ry fun s3 I3 => ?_
  have w : Stp h2 H2 (up h2 a (.ins n (putD f y fs))) (upd H2 a (.ins C dx (putF f yv vs))) := Stp.write ea
  have m3 := Stp.mo hH2 w
  have hH3 : RepH X.kw (up h2 a (.ins n (putD f y fs))) (upd H2 a (.ins C dx (putF f yv vs))) := hH2.writeO ea ⟨C, dx, _, em, upd_same, fs_mono m3 (fs_put rvy2 rf)⟩
  refine ⟨_, _, I3, hc.nx σ (up h2 a (.ins n (putD f y fs))) σV _ ((st1.trans st2).trans w) ((hE1.mono m2).mono m3) hH3 q2⟩
theorem de_meth {pl : Sem Bool} (he : DE X o to) (hM : ∀ q ∈ qs, MethG X.prog X.w X.K X.mg X.base k q.1 m q.2) (hr : RoomG k X.A) (ha : DA X (e :: es) ta)
    (hst : starEach (e :: es) X.env = (false, eval e X.env) :: starEach es X.env := by rfl) (hpl : (backTo pos (starEach es X.env)).any (·.1) = false := by rfl)
    (ht : eval (.Call (.Attribute o m apos) (e :: es) [] pos) X.env = (do
      let ov ← eval o X.env
      standAt apos.atName
      let (f, first) ← holding [ov] (getMethod ov m pl)
      callWith pos f first (backTo pos (starEach (e :: es) X.env)) (backToKw pos (keywordEach [] X.env))) := by rfl) :
    DE X (.Call (.Attribute o m apos) (e :: es) [] pos) (dMeth m qs to ta) := by
  refine ⟨fun pins s σV H QV I ⟨σ, h, Q, hE, hH, ht', hc⟩ => ?_⟩
  refine PySem.W.methodCall_KW (pl := pl) (thn (he.run pins s σV H (fun v H1 => ∃ d h1, Stp h H h1 H1 ∧ RepH X.kw h1 H1 ∧ RepV X.kw H1 d v ∧ ∃ a n fs sp, d = .ref a ∧ h1 a = some (.ins n fs) ∧ fs.lookup m = none ∧ (n, sp) ∈ qs ∧ ta σ h1 fun ds h2 => sp (d :: ds) h2 Q) I
    ⟨σ, h, _, hE, hH, ht', fun d h1 v H1 s1 hH1 rv q => ⟨d, h1, s1, hH1, rv, q⟩⟩) fun u s1 ⟨x, H1, I1, rx, d, h1, st, hH1, rv, a, n, fs, sp, ed, ea, l, hn, q⟩ => ?_) ht
  subst ed
  cases (show x = .ref a from rv)
  obtain rfl : u = Value.ref a := rx
  obtain ⟨C, dx, vs, em, eH, rf⟩ := hH1 a _ ea
  have em : X.mg n = some (.ref C) := em
  obtain ⟨C', f, fd, ps, em', c, hm, F, b⟩ := (hM (n, sp) hn).ex
  rw [em] at em'
  cases em'
  have ln : vs.lookup m = none := by
    have := (fs_look (f := m) rf).isSome
    rw [l] at this
    cases z : vs.lookup m with
    | none => rfl
    | some y => rw [z] at this; cases this
  refine getmeth_ok I1 eH c hm ln ?_
  refine PySem.W.callWith_K (first := [.ref a]) (h₀ := X.base) I1.ok.mod.kin hm.kp (thn (ha.run pos pins s1 σV H1 (fun ws H2 => ∃ ds h2, Stp h1 H1 h2 H2 ∧ RepH X.kw h2 H2 ∧ RepVs X.kw H2 ds ws ∧ sp (.ref a :: ds) h2 Q) I1
    ⟨σ, h1, _, hE.mono (Stp.mo hH st), hH1, q, fun ds h2 ws H2 s2 hH2 rvs q => ⟨ds, h2, s2, hH2, rvs, q⟩⟩) fun us s2 ⟨ws, H2, I2, r, ds, h2, st2, hH2, rvs, q2⟩ => ⟨I2.kIn, ?_⟩) hst hpl
  exact run_g (us := .ref a :: us) (vs := .ref a :: ws) F hr b pass0 I2 (.cons rfl r) (show lowC X.kw sp (.ref a :: ws) H2 QV from ⟨.ref a :: ds, h2, Q, ⟨_, _, rfl, rfl, rvs⟩, hH2, q2, hc.step (st.trans st2)⟩)
theorem de_meth0 {pl : Sem Bool} (he : DE X o to) (hM : ∀ q ∈ qs, MethG X.prog X.w X.K X.mg X.base k q.1 m q.2) (hr : RoomG k X.A)
    (ht : eval (.Call (.Attribute o m apos) [] [] pos) X.env = (do
      let ov ← eval o X.env
      standAt apos.atName
      let (f, first) ← holding [ov] (getMethod ov m pl)
      callWith pos f first (backTo pos (starEach [] X.env)) (backToKw pos (keywordEach [] X.env))) := by rfl) :
    DE X (.Call (.Attribute o m apos) [] [] pos) (dMeth m qs to dNil) := by
  refine ⟨fun pins s σV H QV I ⟨σ, h, Q, hE, hH, ht', hc⟩ => ?_⟩
  refine PySem.W.methodCall_KW (pl := pl) (thn (he.run pins s σV H (fun v H1 => ∃ d h1, Stp h H h1 H1 ∧ RepH X.kw h1 H1 ∧ RepV X.kw H1 d v ∧ ∃ a n fs sp, d = .ref a ∧ h1 a = some (.ins n fs) ∧ fs.lookup m = none ∧ (n, sp) ∈ qs ∧ dNil σ h1 fun ds h2 => sp (d :: ds) h2 Q) I
    ⟨σ, h, _, hE, hH, ht', fun d h1 v H1 s1 hH1 rv q => ⟨d, h1, s1, hH1, rv, q⟩⟩) fun u s1 ⟨x, H1, I1, rx, d, h1, st, hH1, rv, a, n, fs, sp, ed, ea, l, hn, q⟩ => ?_) ht
  subst ed
  cases (show x = .ref a from rv)
  obtain rfl : u = Value.ref a := rx
  obtain ⟨C, dx, vs, em, eH, rf⟩ := hH1 a _ ea
  have em : X.mg n = some (.ref C) := em
  obtain ⟨C', f, fd, ps, em', c, hm, F, b⟩ := (hM (n, sp) hn).ex
  rw [em] at em'
  cases em'
  have ln : vs.lookup m = none := by
    have := (fs_look (f := m) rf).isSome
    rw [l] at this
    cases z : vs.lookup m with
    | none => rfl
    | some y => rw [z] at this; cases this
  refine getmeth_ok I1 eH c hm ln ?_
  exact PySem.W.callWith_K0 (first := [.ref a]) I1.kIn hm.kp (run_g (us := [.ref a]) (vs := [.ref a]) F hr b pass0 I1 (.cons rfl .nil) (show lowC X.kw sp [.ref a] H1 QV from ⟨[.ref a], h1, Q, ⟨_, _, rfl, rfl, rfl⟩, hH1, q, hc.step st⟩))
theorem made_low {C x dx : Addr} {h h1 : MH} {H H1 : Hp} {Q : KD} {QV : VK} {ds : List D} {vs : List V} (em : X.mg n = some (.ref C)) (st : Stp h H h1 H1) (hH1 : RepH X.kw h1 H1) (rv : RepVs X.kw H1 ds vs) (nx : H1 x = none) (ndx : H1 dx = none) (ne : dx ≠ x)
    (q : ∀ x, h1 x = none → sp (.ref x :: ds) (up h1 x (.ins n [])) fun v h2 => v = .none ∧ Q (.ref x) h2) (hc : Cl X.kw h H Q QV) :
    lowC X.kw sp (.ref x :: vs) (L2.upd (L2.upd H1 dx (.own x)) x (.ins C dx [])) (fun v H2 => v = .non ∧ QV (.ref x) H2) := by
  have s1 : Stp h1 H1 h1 (L2.upd H1 dx (.own x)) := Stp.hide ndx
  have r1 : RepH X.kw h1 (L2.upd H1 dx (.own x)) := hH1.hide ndx
  have nx1 : (L2.upd H1 dx (.own x)) x = none := by rw [upd_ne ne.symm]; exact nx
  have s2 : Stp h1 (L2.upd H1 dx (.own x)) (up h1 x (.ins n [])) (L2.upd (L2.upd H1 dx (.own x)) x (.ins C dx [])) := Stp.new nx1
  have r2 : RepH X.kw (up h1 x (.ins n [])) (L2.upd (L2.upd H1 dx (.own x)) x (.ins C dx [])) := r1.newO nx1 ⟨C, dx, [], em, upd_same, .nil⟩
  have m := (Stp.mo hH1 s1).trans (Stp.mo r1 s2)
  refine ⟨.ref x :: ds, _, _, ⟨_, _, rfl, rfl, RepVs.mono m _ rv⟩, r2, q x (hH1.nofresh nx), fun d h' v H' st' hH' rv' ⟨ed, q'⟩ => ?_⟩
  subst ed
  exact ⟨rv', hc (.ref x) h' (.ref x) H' (((st.trans s1).trans s2).trans st') hH' rfl q'⟩
theorem de_make {p : Pos} (M : MakeG X.prog X.w X.K X.mg X.base k n sp) (hr : RoomG (k + 1) X.A) (hg : Gl X n) (ha : DA X (e :: es) ta) (hdb : (n == ("__debug__" : Str)) = false := by decide) (he : starEach (e :: es) X.env = (false, eval e X.env) :: starEach es X.env := by rfl) (hpl : (backTo pos (starEach es X.env)).any (·.1) = false := by rfl) :
    DE X (.Call (.Name n p) (e :: es) [] pos) (dMake n sp ta) := by
  obtain ⟨C, f, fd, ps, em, mk, F, b⟩ := M.ex
  refine ⟨fun pins s σV H QV I ⟨σ, h, Q, hE, hH, ht, hc⟩ => ?_⟩
  refine wpAny_Call_Name_kw (ld_glob I hg em ?_ hdb)
  refine PySem.W.callWith_K (h₀ := X.base) I.ok.mod.kin mk.kp (thn (ha.run pos pins s σV H (fun ws H1 => ∃ ds h1, Stp h H h1 H1 ∧ RepH X.kw h1 H1 ∧ RepVs X.kw H1 ds ws ∧ ∀ x, h1 x = none → sp (.ref x :: ds) (up h1 x (.ins n [])) fun v h2 => v = .none ∧ Q (.ref x) h2) I
    ⟨σ, h, _, hE, hH, ht, fun ds h1 ws H1 s1 hH1 rvs q => ⟨ds, h1, s1, hH1, rvs, q⟩⟩) fun us s1 ⟨ws, H1, I1, r, ds, h1, st, hH1, rvs, q⟩ => ⟨I1.kIn, ?_⟩) he hpl
  exact run_makeG mk F hr b pass0 I1 r fun x dx nx ndx ne => made_low em st hH1 rvs nx ndx ne q hc
theorem de_make0 {p : Pos} (M : MakeG X.prog X.w X.K X.mg X.base k n sp) (hr : RoomG (k + 1) X.A) (hg : Gl X n) (hdb : (n == ("__debug__" : Str)) = false := by decide) :
    DE X (.Call (.Name n p) [] [] pos) (dMake n sp dNil) := by
  obtain ⟨C, f, fd, ps, em, mk, F, b⟩ := M.ex
  refine ⟨fun pins s σV H QV I ⟨σ, h, Q, hE, hH, ht, hc⟩ => ?_⟩
  refine wpAny_Call_Name_kw (ld_glob I hg em ?_ hdb)
  exact PySem.W.callWith_K0 I.kIn mk.kp (run_makeG (us := []) mk F hr b pass0 I .nil fun x dx nx ndx ne => made_low (ds := []) em Stp.refl hH rfl nx ndx ne ht hc)
theorem hf_nil {K : PySem.W.Frag} {mg : Str → Option Value} {f : Str} : ∀ n ∈ ([] : List Str), FldF K mg n f := fun _ h => nomatch h
theorem hf_cons {K : PySem.W.Frag} {mg : Str → Option Value} {f n : Str} {ns : List Str} (h : FldF K mg n f) (t : ∀ n ∈ ns, FldF K mg n f) : ∀ m ∈ n :: ns, FldF K mg m f := fun m hm => by
  rcases List.mem_cons.mp hm with rfl | hm
  · exact h
  · exact t m hm
theorem hp_nil {P : Program} {w : World} {K : PySem.W.Frag} {mg : Str → Option Value} {base : Heap} {k : Nat} {f : Str} : ∀ q ∈ ([] : List (Str × P1)), PropG P w K mg base k q.1 f q.2 := fun _ h => nomatch h
theorem hp_cons {P : Program} {w : World} {K : PySem.W.Frag} {mg : Str → Option Value} {base : Heap} {k : Nat} {n f : Str} {sp : P1} {qs : List (Str × P1)} (h : PropG P w K mg base k n f sp) (t : ∀ q ∈ qs, PropG P w K mg base k q.1 f q.2) : ∀ q ∈ (n, sp) :: qs, PropG P w K mg base k q.1 f q.2 := fun q hq => by
  rcases List.mem_cons.mp hq with rfl | hq
  · exact h
  · exact t q hq
theorem hm_nil {P : Program} {w : World} {K : PySem.W.Frag} {mg : Str → Option Value} {base : Heap} {k : Nat} {m : Str} : ∀ q ∈ ([] : List (Str × P1)), MethG P w K mg base k q.1 m q.2 := fun _ h => nomatch h
theorem hm_cons {P : Program} {w : World} {K : PySem.W.Frag} {mg : Str → Option Value} {base : Heap} {k : Nat} {n m : Str} {sp : P1} {qs : List (Str × P1)} (h : MethG P w K mg base k n m sp) (t : ∀ q ∈ qs, MethG P w K mg base k q.1 m q.2) : ∀ q ∈ (n, sp) :: qs, MethG P w K mg base k q.1 m q.2 := fun q hq => by
  rcases List.mem_cons.mp hq with rfl | hq
  · exact h
  · exact t q hq
def dDead : S1 := fun _ _ _ => False
def dDeadE : E1 := fun _ _ _ => False
/-- what is never come to needs no rule -/
theorem de_dead {e : Expr} : DE X e dDeadE := ⟨fun _ _ _ _ _ _ ⟨_, _, _, _, _, z, _⟩ => z.elim⟩
theorem ds_dead {s : Stmt} : DL.DS X s dDead := ⟨fun _ _ _ _ _ _ ⟨_, _, _, _, _, z, _⟩ => z.elim⟩
end
end DL
namespace DL
open PySem PySem.Spec PyProof.Rows L2
local macro_rules | `(tactic| walk_at "ev") => `(tactic| try simp only [e_seq, e_next, e_brk, e_cnt, e_drop, e_ret, e_retN, e_ifS, e_asg, e_gN, e_gSb, e_gTp, e_gCn, e_gNl, e_var, e_varK, e_nth0, e_nthS, e_put0, e_putS, e_c, e_op, e_un, e_call, e_nil, e_cons, e_tup, e_lst, e_test, e_asB, e_tru, e_andT, e_orT, e_notT, e_andV, e_orV, e_notV, e_if, e_aug, e_augS, e_sl, e_part, e_partK, e_noPart, e_bm0, e_bm, e_join, e_yes, e_wipe0, e_wipeS, e_lc, e_for, v_add, v_addS, v_addT, v_iadd, v_sub, v_mul, v_fdiv, v_mod, v_pow, v_shl, v_shr, v_neg, v_lt, v_le, v_gt, v_ge, v_eqI, v_neI, v_eqS, v_neS, v_inS, v_ninS, v_inT, v_ninT, v_inR, v_ninR, v_inSeq, v_seqO, v_seqR, v_seqT, v_seqL, v_ixR, v_ixT, v_ixL, v_ixS, v_atK, v_atSK, v_get, v_getL, v_getK, v_set, v_setL, v_setK, v_on1, v_on2, v_lenR, v_lenT, v_lenL, v_lenS, v_seqK, v_tuple, v_list, v_abs, v_intI, v_intB, v_okL, v_isLst, v_app, v_lstK, v_slS, v_slT, v_join, v_is, v_isnot, v_max, v_min, v_iSeq, v_srcT, v_srcL, v_srcS, v_srcR, v_srcO, v_iRg1, v_rg1, v_truN, v_truB, v_truI, v_truS, v_truR, v_truT, v_truRol, v_truL, v_inRol, v_ninRol, v_inO, v_inOd, v_inDic, v_ixO, v_ixOd, v_ixSeq, v_ixDic, v_dgetK, v_ixStr, v_getO, v_getOd, v_setO, v_setOd, v_setDic, v_lenO, v_lenOd, e_dic0, e_disp, e_pairs0, e_pairsS, e_chain, v_bits, v_iRg3, v_rg3, v_iRg2, v_rg2, v_iEn, v_enT, v_enR, v_enO, v_iZp, v_zpT, v_zpR, v_zpO, v_repr, v_strI, v_strS, v_addR, v_and, v_slR, v_slL, v_ltS, v_srtT, v_srtR, v_srtO, v_srtD, v_revR, v_revT, v_isB, v_iZs, v_zsT, e_split, v_split, v_words, v_index, v_eqIS, v_neIS, v_eqB, v_neB])
local macro_rules | `(tactic| walk_at "e0") => `(tactic| try simp only [e_seq, e_brk, e_cnt, e_drop, e_ret, e_retN, e_ifS, e_asg, e_gN, e_gSb, e_gTp, e_gCn, e_gNl, e_var, e_varK, e_nth0, e_nthS, e_put0, e_putS, e_c, e_op, e_un, e_call, e_nil, e_cons, e_tup, e_lst, e_test, e_asB, e_tru, e_andT, e_orT, e_notT, e_andV, e_orV, e_notV, e_if, e_aug, e_augS, e_sl, e_part, e_partK, e_noPart, e_bm0, e_bm, e_join, e_yes, e_wipe0, e_wipeS, e_lc, e_for, v_add, v_addS, v_addT, v_iadd, v_sub, v_mul, v_fdiv, v_mod, v_pow, v_shl, v_shr, v_neg, v_lt, v_le, v_gt, v_ge, v_eqI, v_neI, v_eqS, v_neS, v_inS, v_ninS, v_inT, v_ninT, v_inR, v_ninR, v_inSeq, v_seqO, v_seqR, v_seqT, v_seqL, v_ixR, v_ixT, v_ixL, v_ixS, v_atK, v_atSK, v_get, v_getL, v_getK, v_set, v_setL, v_setK, v_on1, v_on2, v_lenR, v_lenT, v_lenL, v_lenS, v_seqK, v_tuple, v_list, v_abs, v_intI, v_intB, v_okL, v_isLst, v_app, v_lstK, v_slS, v_slT, v_join, v_is, v_isnot, v_max, v_min, v_iSeq, v_srcT, v_srcL, v_srcS, v_srcR, v_srcO, v_iRg1, v_rg1, v_truN, v_truB, v_truI, v_truS, v_truR, v_truT, v_truRol, v_truL, v_inRol, v_ninRol, v_inO, v_inOd, v_inDic, v_ixO, v_ixOd, v_ixSeq, v_ixDic, v_dgetK, v_ixStr, v_getO, v_getOd, v_setO, v_setOd, v_setDic, v_lenO, v_lenOd, e_dic0, e_disp, e_pairs0, e_pairsS, e_chain, v_bits, v_iRg3, v_rg3, v_iRg2, v_rg2, v_iEn, v_enT, v_enR, v_enO, v_iZp, v_zpT, v_zpR, v_zpO, v_repr, v_strI, v_strS, v_addR, v_and, v_slR, v_slL, v_ltS, v_srtT, v_srtR, v_srtO, v_srtD, v_revR, v_revT, v_isB, v_iZs, v_zsT, v_eqIS, v_neIS, v_eqB, v_neB])
section
/-! what a def that draws nothing has laid -/
structure OV (h hh : MH) (ws : List (Addr × MO)) : Prop where
  ext : le h hh
  at_ : ∀ p ∈ ws, hh p.1 = some p.2
  fr : ∀ p ∈ ws, h p.1 = none
  nd : (ws.map (·.1)).Nodup
section
variable {h hh : MH} {p l : Addr} {ws : List (Addr × MO)} {o x y : MO} {Q : KD}
theorem OV.start : OV h h [] := ⟨le.refl, by simp, by simp, by simp⟩
theorem OV.old (L : OV h hh ws) {b : Addr} {u : MO} (e : h b = some u) : hh b = some u := L.ext b u e
theorem OV.mem (L : OV h hh ws) (m : (l, x) ∈ ws) : hh l = some x := L.at_ _ m
theorem OV.get (L : OV h hh ws) (i : Nat) (e : ws[i]? = some (l, x)) : hh l = some x := L.at_ _ (List.mem_of_getElem? e)
theorem OV.fresh (L : OV h hh ws) (n : hh p = none) : h p = none := by
  cases q : h p with
  | none => rfl
  | some u => rw [L.ext p u q] at n; cases n
theorem OV.new (L : OV h hh ws) (n : hh p = none) (x : MO) : OV h (up hh p x) ((p, x) :: ws) := by
  refine ⟨L.ext.trans (le.up n), fun q hq => ?_, fun q hq => ?_, ?_⟩
  · rcases List.mem_cons.mp hq with rfl | hq
    · exact up_same
    · rw [up_ne (nef (L.at_ q hq) n)]; exact L.at_ q hq
  · rcases List.mem_cons.mp hq with rfl | hq
    · exact L.fresh n
    · exact L.fr q hq
  · rw [List.map_cons, List.nodup_cons]
    refine ⟨fun hm => ?_, L.nd⟩
    obtain ⟨q, hq, e⟩ := List.mem_map.mp hm
    have := L.at_ q hq
    rw [e, n] at this; cases this
theorem OV.newE (L : OV h hh ws) {h1 : MH} (n : hh p = none) (e : up hh p x = h1) : OV h h1 ((p, x) :: ws) := e ▸ L.new n x
theorem OV.set (L : OV h hh ws) (i : Nat) (e : ws[i]? = some (l, x)) (y : MO) : OV h (up hh l y) (ws.set i (l, y)) := by
  have m := List.mem_of_getElem? e
  have hl : h l = none := L.fr _ m
  have hi := (List.getElem?_eq_some_iff.mp e).1
  have emap : (ws.set i (l, y)).map (·.1) = ws.map (·.1) := by
    rw [List.map_set]
    refine List.ext_getElem? fun j => ?_
    by_cases z : j = i
    · subst z
      rw [List.getElem?_set_self (by rw [List.length_map]; exact hi), List.getElem?_map, e]; rfl
    · rw [List.getElem?_set_ne (Ne.symm z)]
  refine ⟨fun b u q => ?_, fun q hq => ?_, fun q hq => ?_, by rw [emap]; exact L.nd⟩
  · rw [up_ne (fun z => by rw [z, hl] at q; cases q)]; exact L.ext b u q
  · obtain ⟨j, hj⟩ := List.getElem?_of_mem hq
    by_cases z : j = i
    · subst z
      rw [List.getElem?_set_self hi] at hj
      cases hj
      exact up_same
    · rw [List.getElem?_set_ne (Ne.symm z)] at hj
      have ql : q.1 ≠ l := fun w => by
        have n1 := L.nd
        have e1 : (ws.map (·.1))[j]? = some l := by rw [List.getElem?_map, hj, ← w]; rfl
        have e2 : (ws.map (·.1))[i]? = some l := by rw [List.getElem?_map, e]; rfl
        obtain ⟨a1, b1⟩ := List.getElem?_eq_some_iff.mp e1
        obtain ⟨a2, b2⟩ := List.getElem?_eq_some_iff.mp e2
        exact z ((List.getElem_inj n1).mp (b1.trans b2.symm))
      rw [up_ne ql]; exact L.at_ q (List.mem_of_getElem? hj)
  · obtain ⟨j, hj⟩ := List.getElem?_of_mem hq
    by_cases z : j = i
    · subst z
      rw [List.getElem?_set_self hi] at hj
      cases hj
      exact hl
    · rw [List.getElem?_set_ne (Ne.symm z)] at hj
      exact L.fr q (List.mem_of_getElem? hj)
theorem OV.sub (L : OV h hh ws) {vs : List (Addr × MO)} (s : vs.Sublist ws) : OV h hh vs := ⟨L.ext, fun p hp => L.at_ p (s.subset hp), fun p hp => L.fr p (s.subset hp), (s.map _).nodup L.nd⟩
theorem OV.tl {w : Addr × MO} (L : OV h hh (w :: ws)) : OV h hh ws := L.sub (List.sublist_cons_self w ws)
theorem OV.kp {w v : Addr × MO} (L : OV h hh (w :: v :: ws)) : OV h hh (w :: ws) := L.sub ((List.sublist_cons_self v ws).cons_cons w)
theorem OV.perm (L : OV h hh ws) {vs : List (Addr × MO)} (p : ws.Perm vs) : OV h hh vs := ⟨L.ext, fun q hq => L.at_ q (p.symm.subset hq), fun q hq => L.fr q (p.symm.subset hq), (p.map _).nodup_iff.mp L.nd⟩
theorem OV.ret (L : OV h hh ws) {d : D} (q : Q d h) : Lh Q d hh := ⟨h, L.ext, q⟩
theorem OV.retN (L : OV h hh ws) (m : (p, x) ∈ ws) {d : D} (q : h p = none → Q d (up h p x)) : Lh Q d hh := by
  refine ⟨_, ?_, q (L.fr _ m)⟩
  intro b u e
  by_cases z : b = p
  · subst z; rw [up_same] at e; cases e; exact L.at_ _ m
  · rw [up_ne z] at e; exact L.ext b u e
theorem OV.cast (L : OV h hh ws) {h' : MH} {ws'} (e : hh = h') (e2 : ws = ws') : OV h h' ws' := by subst e; subst e2; exact L
end
/-! dicts whose keys are told by a list -/
section
variable {α : Type} [DecidableEq α]
def dlk (key : α → D) (L : List α) (f : α → D) : Kvs := L.map fun x => (key x, f x)
variable {key : α → D} {L : List α} {f : α → D} {x : α} {v : D}
theorem dlk_len : (dlk key L f).length = L.length := by unfold dlk; rw [List.length_map]
theorem dlk_keys : (dlk key L f).map (·.1) = L.map key := by unfold dlk; rw [List.map_map]; rfl
theorem dlk_cg {g : α → D} (e : ∀ y ∈ L, f y = g y) : dlk key L f = dlk key L g := by
  unfold dlk
  exact List.map_congr_left fun y hy => by rw [e y hy]
theorem dlk_get (inj : ∀ x y, nk (key x) = nk (key y) → x = y) : ∀ (L : List α), dget (dlk key L f) (key x) = if x ∈ L then some (f x) else none
  | [] => rfl
  | y :: L => by
    have ih := dlk_get inj L
    unfold dlk dget at ih ⊢
    rw [List.map_cons, List.find?_cons]
    by_cases e : y = x
    · subst e; simp
    · rw [decide_eq_false (fun z => e (inj _ _ z))]
      simp only [ih, List.mem_cons]
      by_cases m : x ∈ L
      · rw [if_pos m, if_pos (.inr m)]
      · rw [if_neg m, if_neg (fun z => z.elim (fun z => e z.symm) m)]
theorem dlk_new (inj : ∀ x y, nk (key x) = nk (key y) → x = y) (n : x ∉ L) : dset (dlk key L f) (key x) v = dlk key (L ++ [x]) (fun y => if y = x then v else f y) := by
  unfold dset
  rw [dlk_get inj, if_neg n, if_neg (by simp)]
  unfold dlk
  rw [List.map_append]
  refine congr (congrArg _ (List.map_congr_left fun y hy => ?_)) (by simp)
  show (key y, f y) = (key y, if y = x then v else f y)
  rw [if_neg (fun z => n (by rw [← z]; exact hy))]
theorem dlk_newC (inj : ∀ x y, nk (key x) = nk (key y) → x = y) (n : x ∉ L) : dset (dlk key L (fun _ => v)) (key x) v = dlk key (L ++ [x]) (fun _ => v) := by
  rw [dlk_new inj n]
  exact dlk_cg fun y _ => by simp
theorem dlk_put (inj : ∀ x y, nk (key x) = nk (key y) → x = y) (n : x ∈ L) : dset (dlk key L f) (key x) v = dlk key L (fun y => if y = x then v else f y) := by
  unfold dset
  rw [dlk_get inj, if_pos n, if_pos (by rfl)]
  unfold dlk
  rw [List.map_map]
  refine List.map_congr_left fun y _ => ?_
  show (if nk (key y) = nk (key x) then (key y, v) else (key y, f y)) = (key y, if y = x then v else f y)
  by_cases e : y = x
  · subst e; simp
  · rw [if_neg (fun z => e (inj _ _ z)), if_neg e]
theorem dlk_putC (inj : ∀ x y, nk (key x) = nk (key y) → x = y) (n : x ∈ L) : dset (dlk key L (fun _ => v)) (key x) v = dlk key L (fun _ => v) := by
  rw [dlk_put inj n]
  exact dlk_cg fun y _ => by simp
theorem dlk_some (inj : ∀ x y, nk (key x) = nk (key y) → x = y) : (dget (dlk key L f) (key x)).isSome = decide (x ∈ L) := by
  rw [dlk_get inj]
  by_cases m : x ∈ L
  · rw [if_pos m, decide_eq_true m]; rfl
  · rw [if_neg m, decide_eq_false m]; rfl
theorem dlk_fitS (s : ∀ x, (scaK (key x)).isSome = true) (x : α) : fit (dlk key L f) (key x) = true := by
  unfold fit dlk
  rw [s x, List.all_map]
  simp [s]
theorem dlk_fitT (s : ∀ x, tupK (key x) = true) (x : α) : fit (dlk key L f) (key x) = true := by
  unfold fit dlk
  rw [s x, List.all_map, List.all_map]
  simp [s]
end
def natK (n : Nat) : D := .int (n : Nat)
theorem natK_inj (x y : Nat) (h : nk (natK x) = nk (natK y)) : x = y := by
  simp only [natK, nk, Option.some.injEq, NestedKey.num.injEq] at h
  omega
theorem natK_sca (x : Nat) : (scaK (natK x)).isSome = true := rfl
end
section
section
variable {α : Type} {h hh : MH} {a c : Addr} {cs : List Int} {ws : List (Addr × MO)} {xs : List D} {stab : MH → Prop} {g : G1} {te : E1} {tt : T1} {vs : List Nat} {σ : Sl} {Q : KD}
theorem lcT_sub (L : LV h a c cs hh ws) (ys : List α) (e f : α → D) (ex : xs = ys.map e) (hz : ys.length ≤ 1000000) (hs : ∀ h1, LV h a c cs h1 ws → stab h1)
    (he : ∀ y ∈ ys, ∀ (h1 : MH) (Q' : KD) (R : MH → Prop), LV h a c cs h1 ws → (∀ h2, LV h a c cs h2 ws → Q' (f y) h2) → (∀ h2, LV h a c cs h2 ws → R h2) → g (e y) (wipeD σ vs) h1 fun σ2 h2 => tt σ2 h2 fun b h3 => if b = true then te σ2 h3 Q' else R h3)
    (fin : ∀ (zs : List α) (p : Addr) (h1 : MH), zs.Sublist ys → p ≠ a → LV h a c cs h1 ((p, .lst (zs.map f)) :: ws) → Q (.ref p) h1) : lcT xs stab g tt te vs σ Q hh := by
  subst ex
  refine ⟨by rw [List.length_map]; exact Nat.le_of_lt (sl_lt hz), fun i acc h1 => ∃ zs : List α, LV h a c cs h1 ws ∧ acc = zs.map f ∧ zs.Sublist (ys.take i), ⟨hh, le.refl, [], L, rfl, List.nil_sublist _⟩, fun i acc h1 ⟨_, L1, _⟩ => hs h1 L1, ?_, ?_⟩
  · rintro i x acc h1 hx ⟨zs, L1, rfl, sub⟩
    rw [List.getElem?_map] at hx
    obtain ⟨y, hy, rfl⟩ := Option.map_eq_some_iff.mp hx
    obtain ⟨hi, ey⟩ := List.getElem?_eq_some_iff.mp hy
    have et : ys.take (i + 1) = ys.take i ++ [y] := by rw [List.take_succ_eq_append_getElem hi, ey]
    refine he y (List.mem_of_getElem? hy) h1 (fun z h4 => ∃ h5, le h5 h4 ∧ ∃ zs' : List α, LV h a c cs h5 ws ∧ zs.map f ++ [z] = zs'.map f ∧ zs'.Sublist (ys.take (i + 1))) (fun h4 => ∃ h5, le h5 h4 ∧ ∃ zs' : List α, LV h a c cs h5 ws ∧ zs.map f = zs'.map f ∧ zs'.Sublist (ys.take (i + 1))) L1 (fun h2 L2 => ⟨h2, le.refl, zs ++ [y], L2, by rw [List.map_append]; rfl, by rw [et]; exact sub.append (List.Sublist.refl _)⟩) fun h2 L2 => ⟨h2, le.refl, zs, L2, rfl, by rw [et]; exact sub.trans (List.sublist_append_left _ _)⟩
  · rintro acc h1 ⟨zs, L1, rfl, sub⟩ p np
    rw [List.length_map, List.take_length] at sub
    exact fin zs p _ sub (L1.ne np) (L1.new np _)
/-- nothing is tested; P tells of each -/
theorem lcT_each (L : LV h a c cs hh ws) (ys : List α) (e : α → D) (P : α → D → Prop) (ex : xs = ys.map e) (hz : ys.length ≤ 1000000) (hs : ∀ h1, LV h a c cs h1 ws → stab h1)
    (he : ∀ y ∈ ys, ∀ (h1 : MH) (Q' : KD), LV h a c cs h1 ws → (∀ z h2, P y z → LV h a c cs h2 ws → Q' z h2) → g (e y) (wipeD σ vs) h1 fun σ2 h2 => te σ2 h2 Q')
    (fin : ∀ (acc : List D) (p : Addr) (h1 : MH), Paired P ys acc → p ≠ a → LV h a c cs h1 ((p, .lst acc) :: ws) → Q (.ref p) h1) : lcT xs stab g dYes te vs σ Q hh := by
  subst ex
  refine ⟨by rw [List.length_map]; exact Nat.le_of_lt (sl_lt hz), fun i acc h1 => LV h a c cs h1 ws ∧ Paired P (ys.take i) acc, ⟨hh, le.refl, L, .nil⟩, fun i acc h1 ⟨L1, _⟩ => hs h1 L1, ?_, ?_⟩
  · rintro i x acc h1 hx ⟨L1, pr⟩
    rw [List.getElem?_map] at hx
    obtain ⟨y, hy, rfl⟩ := Option.map_eq_some_iff.mp hx
    obtain ⟨hi, ey⟩ := List.getElem?_eq_some_iff.mp hy
    refine he y (List.mem_of_getElem? hy) h1 (fun z h4 => ∃ h5, le h5 h4 ∧ LV h a c cs h5 ws ∧ Paired P (ys.take (i + 1)) (acc ++ [z])) L1 fun z h2 hz L2 => ⟨h2, le.refl, L2, ?_⟩
    rw [List.take_succ_eq_append_getElem hi, ey]
    exact P2.append pr (.cons hz .nil)
  · rintro acc h1 ⟨L1, pr⟩ p np
    rw [List.length_map, List.take_length] at pr
    exact fin acc p _ pr (L1.ne np) (L1.new np _)
end
/-! a list of the caller's is written: the base moves -/
theorem LV.base {h hh : MH} {a c pl : Addr} {cs : List Int} {ws : List (Addr × MO)} (L : LV h a c cs hh ws) {u : MO} (e : h pl = some u) (pa : pl ≠ a) (pc : pl ≠ c) (x : MO) : LV (up h pl x) a c cs (up hh pl x) ws := by
  obtain ⟨o, k, E⟩ := L.ext
  have nw : ∀ p ∈ ws, p.1 ≠ pl := fun p hp z => by
    have := L.fr p hp
    rw [z, e] at this; cases this
  refine ⟨L.dr0.put (Ne.symm pa) (Ne.symm pc), ⟨o, k, ?_, by rw [up_ne pa.symm]; exact E.at_⟩, fun p hp => by rw [up_ne (nw p hp)]; exact L.at_ p hp, fun p hp => by rw [up_ne (nw p hp)]; exact L.fr p hp, L.nd⟩
  rw [up_com pa]
  exact le.up2 E.le_
theorem LV.cast {h h' hh hh' : MH} {a c : Addr} {cs : List Int} {ws : List (Addr × MO)} (L : LV h a c cs hh ws) (e : h = h') (e2 : hh = hh') : LV h' a c cs hh' ws := by subst e; subst e2; exact L
theorem filt_add {α : Type} (p : α → Bool) : ∀ l : List α, (l.filter fun x => !p x).length + (l.filter p).length = l.length
  | [] => rfl
  | x :: l => by
    have ih := filt_add p l
    rw [List.filter_cons, List.filter_cons]
    cases p x <;> simp <;> omega
theorem LV.swap {h hh : MH} {a c : Addr} {cs : List Int} {ws : List (Addr × MO)} {x y : Addr × MO} (L : LV h a c cs hh (x :: y :: ws)) : LV h a c cs hh (y :: x :: ws) := by
  refine ⟨L.dr0, L.ext, fun q hq => L.at_ q ?_, fun q hq => L.fr q ?_, ?_⟩
  · rcases List.mem_cons.mp hq with rfl | hq
    · simp
    · rcases List.mem_cons.mp hq with rfl | hq
      · simp
      · exact List.mem_cons_of_mem _ (List.mem_cons_of_mem _ hq)
  · rcases List.mem_cons.mp hq with rfl | hq
    · simp
    · rcases List.mem_cons.mp hq with rfl | hq
      · simp
      · exact List.mem_cons_of_mem _ (List.mem_cons_of_mem _ hq)
  · have := L.nd
    simp only [List.map_cons, List.nodup_cons, List.mem_cons, not_or] at this ⊢
    exact ⟨⟨fun z => this.1.1 z.symm, this.2.1⟩, this.1.2, this.2.2⟩
theorem LV.trans {h hh h2 : MH} {a c : Addr} {cs : List Int} {ws vs : List (Addr × MO)} (L1 : LV h a c cs hh ws) (L2 : LV hh a c cs h2 vs) : LV h a c cs h2 (vs ++ ws) := by
  obtain ⟨o1, k1, E1⟩ := L1.ext
  obtain ⟨o2, k2, E2⟩ := L2.ext
  refine ⟨L1.dr0, ⟨o2, k2, ?_, E2.at_⟩, fun q hq => ?_, fun q hq => ?_, ?_⟩
  · intro b u e
    by_cases z : b = a
    · subst z; rw [up_same] at e; cases e; exact E2.at_
    · rw [up_ne z] at e
      exact L2.old (E1.get e z) z
  · rcases List.mem_append.mp hq with hq | hq
    · exact L2.at_ q hq
    · exact L2.old (L1.at_ q hq) (L1.na (l := q.1) (x := q.2) hq)
  · rcases List.mem_append.mp hq with hq | hq
    · exact E1.fresh (L2.fr q hq)
    · exact L1.fr q hq
  · rw [List.map_append, List.nodup_append]
    refine ⟨L2.nd, L1.nd, fun x hx y hy e => ?_⟩
    obtain ⟨q, hq, rfl⟩ := List.mem_map.mp hx
    obtain ⟨r, hr, rfl⟩ := List.mem_map.mp hy
    have a1 := L2.fr q hq
    have a2 := L1.at_ r hr
    rw [e, a2] at a1; cases a1
end
end DL
namespace DL
open PySem PySem.Spec PyProof.Rows L2
/-! ### methods of dicts: get, setdefault, update; the module's tuples -/
def isDic (o : Option MO) : Prop := match o with
  | some (.dic _) => True
  | _ => False
def okD (x : D) (h : MH) : Prop := match x with
  | .ref a => isDic (h a)
  | _ => False
def dctK (k : Kvs → Prop) : Option MO → Prop
  | some (.dic kvs) => k kvs
  | _ => False
theorem dctK_inv {k : Kvs → Prop} {o : Option MO} (q : dctK k o) : ∃ kvs, o = some (.dic kvs) ∧ k kvs := by
  cases o with
  | none => exact q.elim
  | some o =>
    cases o with
    | lst _ => exact q.elim
    | dic kvs => exact ⟨kvs, rfl, q⟩
    | ins _ _ => exact q.elim
    | fdic _ _ => exact q.elim
theorem okD_inv {x : D} {h : MH} (q : okD x h) : ∃ a kvs, x = .ref a ∧ h a = some (.dic kvs) := by
  cases x <;> try exact q.elim
  case ref a =>
    have q : isDic (h a) := q
    cases e : h a with
    | none => rw [e] at q; exact q.elim
    | some o =>
      cases o with
      | lst _ => rw [e] at q; exact q.elim
      | dic kvs => exact ⟨a, kvs, rfl, e⟩
      | ins _ _ => rw [e] at q; exact q.elim
      | fdic _ _ => rw [e] at q; exact q.elim
section
variable {X : Cx} {pins : List (Addr × Obj)} {σ : L2.St} {H : Hp} {a : Addr} {kvs : Kvs} {d e : D} {v : V} {u : Value} {s : Shared} {E : Value → Shared → Prop}
theorem dic_no (I : Inv X pins σ H s) (ro : RepO X.kw H a (.dic kvs)) : ∃ o, s.heap.get? a = some o ∧ o.dict = none := by
  rcases ro with ⟨kv, e, _⟩ | ⟨xs, r⟩
  · obtain ⟨_, _, vs, _, o, es, ep, e, c, _⟩ := dk_of I.hok e
    exact ⟨o, e, c.2.1⟩
  · obtain ⟨⟨o, es, ep, e, c, _⟩, _⟩ := (show ObjOk X.prog X.w H s.heap a (dobj X.w a xs) from I.hok a _ r.at_)
    exact ⟨o, e, c.2.1⟩
theorem dd_setd {Q : Value → Shared → Prop} {z : V} {uz : Value} (hu : X.A.units + 64 < cLine) (I : Inv X pins σ H s) (ro : RepO X.kw H a (.dic kvs)) (rd : RepV X.kw H d v) (ru : RelV v u) (re : RepV X.kw H e z) (rz : RelV z uz) (hf : fit kvs d = true) (hl : kvs.length < sizeLine)
    (h1 : ∀ f, dget kvs d = some f → ∀ w s', Inv X pins σ H s' → VO X.kw H f w → Q w s')
    (h2 : dget kvs d = none → ∀ s' o, Inv X pins σ (upd H a o) s' → RepO X.kw (upd H a o) a (.dic (dset kvs d e)) → VO X.kw (upd H a o) e uz → Q uz s') :
    wpAny (model X.prog X.w) X.A (call (.builtin "dict.setdefault") [.ref a, u, uz]) Q E s := by
  rcases fit_or hf with ⟨k, ek, al⟩ | ⟨k, ek, tk, al⟩
  · obtain ⟨A⟩ := as_K I ro al
    cases sca_rep rd ek
    have I2 := A.to_ s I
    obtain ⟨zl, hd, vs0, rel, dd⟩ := dk_of I2.hok upd_same
    have hz : vs0.length ≤ sizeLine := by rw [← rel.length]; exact zl
    have rs := dset_K A.rep ek rd re
    have gk := dget_K A.rep ek
    refine call_meetsIn PySem.F.slot_dict_setdefault dd.typeIs PySem.F.entry_dict_setdefault (PySem.F.args_dict_setdefault_3 _ _ _) (kt_meets_setdefault (mixKind X.prog X.w) _ (kV_is ru) hd _) ⟨vs0, dd, hz, fun w hw => ?_, fun hn h' dd' hs => ?_⟩
    · have rr := rel.val k
      rw [hw] at rr
      cases hv : valV A.kv k with
      | none => rw [hv] at rr; exact False.elim rr
      | some x =>
        rw [hv] at rr gk
        cases hg : dget kvs d with
        | none => rw [hg] at gk; exact False.elim gk
        | some f =>
          rw [hg] at gk
          exact h1 f hg w _ (A.from_ _ (I2.tok _)) ⟨x, rr, gk⟩
    · have rr := rel.val k
      rw [hn] at rr
      cases hv : valV A.kv k with
      | some x => rw [hv] at rr; exact False.elim rr
      | none =>
        rw [hv] at gk
        cases hg : dget kvs d with
        | some f => rw [hg] at gk; exact False.elim gk
        | none =>
          have hl2 : (putK A.kv k z).length ≤ sizeLine := by have := length_putK A.kv k z; have := A.rep.length; omega
          have I3 := d_write (t' := s.toks + 1) I2 (by rw [upd_same]; exact True.intro) hs (let ⟨q, _, _, hq, _⟩ := dd'; ⟨q, hq⟩) (dk_new hl2 hd (rel.put k rz) dd')
          rw [upd_upd] at I3
          exact h2 hg _ _ I3 (.inl ⟨_, upd_same, rs.mono (A.mo _)⟩) ⟨z, rz, mo_back (A.mo _) re⟩
  · obtain ⟨A⟩ := as_N I ro al
    have rs := dset_N A.rep ek rd re
    have gk := dget_N A.rep ek
    have nk' := nkey_of tk ek (mo_back (A.mo (dobj X.w a A.xs)) rd)
    have I2 := A.to_ s I
    obtain ⟨ys, dh, p⟩ := A.dic.heap I2
    obtain ⟨b, rfl, rfl, ki⟩ := nk'.heap I2 ru
    have rel := ent_val p k
    refine call_setdefault_heap (hsz := by rw [← p.length]; exact A.dic.len) (nroom hu) ki A.dic.low dh (fun w hw => ?_) fun hn h' dh' hs => ?_
    · rw [hw] at rel
      cases hv : entAt A.xs k with
      | none => rw [hv] at rel; exact False.elim rel
      | some x =>
        rw [hv] at rel gk
        cases hg : dget kvs d with
        | none => rw [hg] at gk; exact False.elim gk
        | some f =>
          rw [hg] at gk
          exact h1 f hg _ _ (A.from_ _ (I2.tok _)) ⟨x, rel, gk⟩
    · rw [hn] at rel
      cases hv : entAt A.xs k with
      | some x => rw [hv] at rel; exact False.elim rel
      | none =>
        rw [hv] at gk
        cases hg : dget kvs d with
        | some f => rw [hg] at gk; exact False.elim gk
        | none =>
          have I3 := n_write (t' := s.toks + (nkd X).draws k) I2 A.dic dh' hs (ent_put p k b z rz)
          rw [upd_upd] at I3
          refine h2 hg _ _ I3 (.inr ⟨_, ⟨upd_same, rs.mono (A.mo _), ?_, entPut_nd _ _ _ A.dic.nd, ?_, A.dic.low⟩⟩) ⟨z, rz, mo_back (A.mo _) re⟩
          · exact fun p hp => List.all_eq_true.mp (dset_all al tk) p hp
          · exact Nat.le_trans (dset_len _ _ _) hl
end
section
variable {X : Cx}
def getdD : M1 := fun x ds h Q => match x, ds with
  | .ref a, [k] => dctK (fun kvs => fit kvs k = true ∧ Q ((dget kvs k).getD .none) h) (h a)
  | .ref a, [k, e] => dctK (fun kvs => fit kvs k = true ∧ Q ((dget kvs k).getD e) h) (h a)
  | _, _ => False
theorem xm_getd (hu : X.A.units + 64 < cLine) : MtR X "dict.get" (lowM X.kw getdD) := fun pins s σ H x vs v us QV I rx rvs ⟨d, ds, h, Q, rx', rv, hH, hr, hc⟩ => by
  unfold getdD at hr
  split at hr
  · rename_i a k
    obtain ⟨kvs, eh, hf, q⟩ := dctK_inv hr
    cases (show x = _ from rx')
    cases rx
    obtain ⟨w, rfl, r1⟩ := rep1 rv
    cases rvs with
    | cons ry rvs =>
      cases rvs
      exact dd_get1 hu I (hH a _ eh) r1 ry hf fun w' s' I' ⟨z, rz, rf⟩ => ⟨z, H, I', rz, hc _ _ _ _ Stp.refl hH rf q⟩
  · rename_i a k e
    obtain ⟨kvs, eh, hf, q⟩ := dctK_inv hr
    cases (show x = _ from rx')
    cases rx
    obtain ⟨w, w2, rfl, r1, r2⟩ := rep2 rv
    cases rvs with
    | cons ry rvs =>
      cases rvs with
      | cons rd rvs =>
        cases rvs
        exact dd_get2 hu I (hH a _ eh) r1 ry r2 rd hf fun w' s' I' ⟨z, rz, rf⟩ => ⟨z, H, I', rz, hc _ _ _ _ Stp.refl hH rf q⟩
  · exact hr.elim
def setdD : M1 := fun x ds h Q => match x, ds with
  | .ref a, [k, e] => dctK (fun kvs => fit kvs k = true ∧ kvs.length < sizeLine ∧ match dget kvs k with
    | some f => Q f h
    | none => Q e (up h a (.dic (dset kvs k e)))) (h a)
  | _, _ => False
theorem xm_setd (hu : X.A.units + 64 < cLine) : MtR X "dict.setdefault" (lowM X.kw setdD) := fun pins s σ H x vs v us QV I rx rvs ⟨d, ds, h, Q, rx', rv, hH, hr, hc⟩ => by
  unfold setdD at hr
  split at hr
  · rename_i a k e
    obtain ⟨kvs, eh, hf, hl, q⟩ := dctK_inv hr
    cases (show x = _ from rx')
    cases rx
    obtain ⟨w, w2, rfl, r1, r2⟩ := rep2 rv
    cases rvs with
    | cons ry rvs =>
      cases rvs with
      | cons rd rvs =>
        cases rvs
        refine dd_setd hu I (hH a _ eh) r1 ry r2 rd hf hl (fun f hg w' s' I' ⟨z, rz, rf⟩ => ?_) fun hg s' o I' ro' ⟨z, rz, rf⟩ => ?_
        · rw [hg] at q
          exact ⟨z, H, I', rz, hc _ _ _ _ Stp.refl hH rf q⟩
        · rw [hg] at q
          exact ⟨z, _, I', rz, hc _ _ _ _ (Stp.write eh) (hH.writeO eh ro') rf q⟩
  · exact hr.elim
theorem de_dm {o e : Expr} {es : List Expr} {to : E1} {t : A1} {r : M1} {name : Str} {id : String} {apos cpos : Pos} (slot : Slot "dict" name id) (hty : typeOf (.builtin id) = pure (.type "method_descriptor")) (hm : MtR X id (lowM X.kw r)) (ho : DE X o to) (ha : DA X (e :: es) t)
    (hbase : attributeBase o name X.env (eval o X.env) = eval o X.env := by rfl)
    (hfew : ((backTo cpos (starEach (e :: es) X.env)).all (fun x => !x.1) && (backToKw cpos (keywordEach [] X.env)).all (fun x => x.1.isSome)
      && decide ((e :: es).length + ([] : List Keyword).length + (if ([] : List Keyword).isEmpty then 0 else 1) < 30)) = true := by rfl)
    (hline : (apos.endLine == cpos.line) = true := by rfl) (hs : starEach (e :: es) X.env = (false, eval e X.env) :: starEach es X.env := by rfl) (hplain : (backTo cpos (starEach es X.env)).any (·.1) = false := by rfl) :
    DE X (.Call (.Attribute o name apos) (e :: es) [] cpos) (dBM okD r to t) := by
  refine ⟨fun pins s σV H QV I ⟨σ, h, Q, hE, hH, ht, hc⟩ => ?_⟩
  refine wpAny_Call_method_late hbase hfew hline rfl (thn (ho.run pins s σV H (fun v H1 => ∃ x h1, Stp h H h1 H1 ∧ RepH X.kw h1 H1 ∧ RepV X.kw H1 x v ∧ okD x h1 ∧ t σ h1 fun ds h2 => r x ds h2 Q) I ⟨σ, h, _, hE, hH, ht, fun x h1 v H1 s1 hH1 rv q => ⟨x, h1, s1, hH1, rv, q⟩⟩) fun u s1 ⟨v, H1, I1, r1, x, h1, st, hH1, rv, ok, q1⟩ => ?_)
  obtain ⟨a, kvs, rfl, eh⟩ := okD_inv ok
  cases (show v = _ from rv)
  cases r1
  refine ⟨"dict", id, PySem.F.plainAttrs_dict, slot, hty, dic_type I1 (hH1 a _ eh), fun b e => by cases e; exact dic_no I1 (hH1 a _ eh), ?_⟩
  have hA := ha.run cpos pins s1 σV H1 (fun vs H2 => ∃ ds h2, Stp h1 H1 h2 H2 ∧ RepH X.kw h2 H2 ∧ RepVs X.kw H2 ds vs ∧ r (.ref a) ds h2 Q) I1 ⟨σ, h1, _, hE.mono (Stp.mo hH st), hH1, q1, fun ds h2 vs H2 s2 hH2 r2 q2 => ⟨ds, h2, s2, hH2, r2, q2⟩⟩
  rw [hs] at hA ⊢
  refine Calls.callWith_builtin (by show (false || (backTo cpos (starEach es X.env)).any (·.1)) = false; rw [hplain] <;> rfl) (Calls.evalArgs_plain ?_)
  exact thn hA fun us s2 ⟨vs, H2, I2, r2, ds, h2, st2, hH2, rvs, q2⟩ => hm pins s2 σV H2 (.ref a) vs (.ref a) us QV I2 rfl r2 ⟨.ref a, ds, h2, Q, rfl, rvs, hH2, q2, hc.step (st.trans st2)⟩
/-! the module's tuples of texts -/
def TupG (K : PySem.W.Frag) (mg : Str → Option Value) (n : Str) (zs : List Str) : Prop := ∃ (a : Addr) (o : Obj) (its : Array Value) (m : Nat), mg n = some (.ref a) ∧ K.lookup a = some o ∧ o.cls = .type "tuple" ∧ o.data = .seq its m ∧ its.size ≤ sizeLine ∧ Vals (zs.map V.str) its.toList
theorem reps_strs {K : KW} {H : Hp} : ∀ {zs : List Str}, (∀ z ∈ zs, okS z) → RepVs K H (zs.map D.str) (zs.map V.str)
  | [], _ => rfl
  | z :: zs, ok => ⟨.str z, zs.map V.str, rfl, ⟨rfl, ok z (by simp)⟩, reps_strs fun y hy => ok y (by simp [hy])⟩
theorem de_globT {x : Str} {zs : List Str} {pos : Pos} (hg : Gl X x) (hm : TupG X.K X.mg x zs) (ok : ∀ z ∈ zs, okS z) (hd : (x == ("__debug__" : Str)) = false := by decide) : DE X (.Name x pos) (dC (.tup (zs.map D.str))) := by
  obtain ⟨a, o, its, m, hm, hk, hc, hs, hz, rv⟩ := hm
  refine ⟨fun pins s σV H QV I ⟨σ, h, Q, hE, hH, ht, hc'⟩ => ?_⟩
  have rt : RepV X.kw H (.tup (zs.map D.str)) (.ref a) := ⟨a, zs.map V.str, rfl, .inr ⟨o, its, m, hk, hc, hs, hz, rv⟩, reps_strs ok⟩
  exact ld_glob I hg hm ⟨.ref a, H, I, rfl, hc' _ _ _ _ Stp.refl hH rt ht⟩ hd
theorem strsV_vals : ∀ {us : List Value} {zs : List Str}, strsV us = some zs → Vals (zs.map V.str) us
  | [], zs, h => by cases h; exact .nil
  | .str x t :: r, zs, h => by
    obtain ⟨ys, e, rfl⟩ := Option.map_eq_some_iff.mp (show (strsV r).map (x :: ·) = some zs from h)
    exact .cons ⟨t, rfl⟩ (strsV_vals e)
theorem tupG_of {K : PySem.W.Frag} {mg : Str → Option Value} {n : Str} {a : Addr} {dd : Option Addr} {its : Array Value} {m : Nat} {sl : Array (Option Value)} {zs : List Str} (h1 : mg n = some (.ref a)) (h2 : K.lookup a = some ⟨.type "tuple", dd, .seq its m, sl⟩) (h3 : strsV its.toList = some zs) (h4 : zs.length ≤ sizeLine) : TupG K mg n zs := by
  have v := strsV_vals h3
  have e := v.length
  rw [List.length_map] at e
  have e2 : its.toList.length = its.size := Array.length_toList
  exact ⟨a, _, its, m, h1, h2, rfl, rfl, by omega, v⟩
end
end DL
namespace DL
open PySem PySem.Spec PyProof.Rows L2
section
variable {D1 : Type} {a : Addr} {k e : D} {h : MH} {Q : KD}
theorem v_getd1 : getdD (.ref a) [k] h Q = dctK (fun kvs => fit kvs k = true ∧ Q ((dget kvs k).getD .none) h) (h a) := rfl
theorem v_getd2 : getdD (.ref a) [k, e] h Q = dctK (fun kvs => fit kvs k = true ∧ Q ((dget kvs k).getD e) h) (h a) := rfl
theorem v_setd : setdD (.ref a) [k, e] h Q = dctK (fun kvs => fit kvs k = true ∧ kvs.length < sizeLine ∧ match dget kvs k with
    | some f => Q f h
    | none => Q e (up h a (.dic (dset kvs k e)))) (h a) := rfl
theorem v_dctK {f : Kvs → Prop} {kvs : Kvs} : dctK f (some (.dic kvs)) = f kvs := rfl
theorem v_okD : okD (.ref a) h = isDic (h a) := rfl
theorem v_isDic {kvs : Kvs} : isDic (some (.dic kvs)) = True := rfl
end
/-! ### a dict walked: for k in d (keys are tuples, or none is there) -/
def Itd (a : Addr) (o : Obj) (es : Array DictEntry) : It :=
  ⟨fun i H => H a = some (pinO a o) ∧ ∃ en x, es[i]? = some en ∧ RelV x en.key, fun i H v H' => H' = H ∧ ∃ en, es[i]? = some en ∧ RelV v en.key, fun i H => H a = some (pinO a o) ∧ es.size ≤ i⟩
theorem pin_at {X : Cx} {pins : List (Addr × Obj)} {σ : L2.St} {H : Hp} {s : Shared} {a : Addr} {o : Obj} (I : Inv X pins σ H s) (e : H a = some (pinO a o)) : s.heap.get? a = some o := (show ObjOk X.prog X.w H s.heap a (pinO a o) from I.hok a _ e).1
theorem turn_dic {P : Program} {w : World} {K : PySem.W.Frag} {tg : Expr} {a : Addr} {o : Obj} {es : Array DictEntry} {ep : Nat} (it : Addr) (hod : o.data = .dict es ep) : Turn P w K tg (Itd a o es) [it] it (fun i h => h.IsKeyIter it a i es.size ep) where
  mem := by simp
  obj := fun i h st b hb => by
    have e : b = it := by simpa using hb
    subst e
    obtain ⟨oi, e, c, dd⟩ := st
    exact ⟨oi, e, fun v z => by rw [dd] at z; cases z⟩
  keep := fun i h h' st k => st.at fun oi e => k it (by simp) oi e
  item := by
    intro X hP hw hK hc i pins s σ H E I hf st hg
    subst hP hw hK
    obtain ⟨hd, en, x, hen, rx⟩ := hg
    obtain ⟨f0, f1, f2, f3, f4, f5⟩ := hf it (by simp)
    have hgd := pin_at I hd
    refine next_key_item st hgd hod rfl hen fun h' st' sb => ?_
    have I1 : Inv X pins σ H { s with heap := h' } := I.turned (t' := s.toks) (fun b ob hb e => (sb.2 b hb).trans e) f0 f1 f3 f4 f5
    obtain ⟨oi, e, c, dd⟩ := id st'
    exact ⟨_, rfl, go_of (s := { s with heap := h' }) e c dd (by decide) ⟨x, H, I1, rx, ⟨rfl, en, hen, rx⟩, st', fun b hb => (hf b hb).1⟩⟩
  done := by
    intro X hP hw hK hc i pins s σ H E I hf st hg
    subst hP hw hK
    obtain ⟨hd, hi⟩ := hg
    obtain ⟨f0, f1, f2, f3, f4, f5⟩ := hf it (by simp)
    exact next_key_end (I.ok.hd hc) st (pin_at I hd) hod rfl hi fun h' eb => ⟨rfl, I.turned (t' := s.toks) (fun b ob hb e => eb b ob hb e) f0 f1 f3 f4 f5⟩
  self := fun A i s Q E st h => wpAny_pyIter_keyiter st h
/-! the walk's source; the dict stands still while it is walked -/
def iDic (t : E1) : I1 := fun σ h Q => t σ h fun x h1 => ∃ a kvs, x = .ref a ∧ h1 a = some (.dic kvs) ∧ kvs.all (fun p => tupK p.1) = true ∧ ∀ o, Q (kvs.map (·.1)) (fun h2 => h2 a = some (.fdic o kvs)) (up h1 a (.fdic o kvs))
theorem src_dic {K : KW} {a : Addr} {o : Obj} {kvs : Kvs} {es : Array DictEntry} {ep : Nat} {h1 : MH} {H1 : Hp} (hod : o.data = .dict es ep) : SrcOk K (Itd a o es) (kvs.map (·.1)) (fun h2 => h2 a = some (.fdic o kvs)) h1 H1 := by
  have key : ∀ h H, RepH K h H → h a = some (.fdic o kvs) → H a = some (pinO a o) ∧ ∃ xs, RepNs K H kvs xs ∧ Paired (entOk K.w) xs es.toList := fun h H r e => by
    obtain ⟨at_, low, len, cls, xs, es', ep', rn, tp, nd, ed, pr⟩ := (show RepF K H a o kvs from r a _ e)
    rw [hod] at ed
    cases ed
    exact ⟨at_, xs, rn, pr⟩
  refine ⟨fun h H i _ r st hi => ?_, fun h H i v H' _ r st hi y => ?_, fun h H _ r st => ?_⟩
  · obtain ⟨e, xs, rn, pr⟩ := key h H r st
    rw [List.length_map] at hi
    obtain ⟨x, hx, _⟩ := P2.get rn (List.getElem?_eq_getElem hi)
    obtain ⟨en, hen, q⟩ := P2.get pr hx
    exact ⟨e, en, x.2.1, by rw [← Array.getElem?_toList]; exact hen, q.2.1⟩
  · obtain ⟨e, xs, rn, pr⟩ := key h H r st
    rw [List.length_map] at hi
    obtain ⟨rfl, en, hen, rv⟩ := y
    obtain ⟨x, hx, q1⟩ := P2.get rn (List.getElem?_eq_getElem hi)
    obtain ⟨en', hen', q2⟩ := P2.get pr hx
    rw [Array.getElem?_toList, hen] at hen'
    cases hen'
    refine ⟨kvs[i].1, by rw [List.getElem?_map, List.getElem?_eq_getElem hi]; rfl, ?_, Stp.refl, r⟩
    rw [rv.inj q2.2.1]
    exact q1.2.1
  · obtain ⟨e, xs, rn, pr⟩ := key h H r st
    have l1 := rn.length
    have l2 := pr.length
    have l3 : es.toList.length = es.size := Array.length_toList
    exact ⟨e, by rw [List.length_map]; omega⟩
theorem di_dic {X : Cx} {tg e : Expr} {t : E1} (he : DE X e t) : DI X tg e (iDic t) := by
  refine ⟨fun pins s σV H R I ⟨σ, h, Q, hE, hH, ht, hc⟩ => ?_⟩
  refine thn (he.run pins s σV H (fun v H' => ∃ d h', Stp h H h' H' ∧ RepH X.kw h' H' ∧ RepV X.kw H' d v ∧ ∃ a kvs, d = .ref a ∧ h' a = some (.dic kvs) ∧ kvs.all (fun p => tupK p.1) = true ∧ ∀ o, Q (kvs.map (·.1)) (fun h2 => h2 a = some (.fdic o kvs)) (up h' a (.fdic o kvs))) I
    ⟨σ, h, _, hE, hH, ht, fun d h' v H' s' r' rv q => ⟨d, h', s', r', rv, q⟩⟩) fun u s1 ⟨v, H1, I1, r1, d0, h1, st1, rh1, rv, a, kvs, ed, eh, al, q⟩ => ?_
  subst ed
  cases (show v = _ from rv)
  cases r1
  obtain ⟨A⟩ := as_N I1 (rh1 a _ eh) al
  have I2 := A.to_ s1 I1
  obtain ⟨⟨o, es, ep, e, c, d, p⟩, _⟩ := (show ObjOk X.prog X.w _ s1.heap a (dobj X.w a A.xs) from I2.hok a _ upd_same)
  have I3 := d_write (h' := s1.heap) (t' := s1.toks) (a := a) (ob := pinO a o) I2 (by rw [upd_same]; exact True.intro) ⟨rfl, fun _ _ => rfl⟩ ⟨o, e⟩ ⟨e, ⟨o, e⟩, fun h1 h2 x k => k o x⟩
  rw [upd_upd] at I3
  have tp : ∀ p ∈ kvs, tupK p.1 = true := fun p hp => (List.all_eq_true.mp al) p hp
  have F : RepF X.kw (upd H1 a (pinO a o)) a o kvs := ⟨upd_same, A.dic.low, by rw [A.rep.length]; exact A.dic.len, c, A.xs, es, ep, A.rep.mono (A.mo _), tp, A.dic.nd, d, p⟩
  refine wpAny_pyIter_dict_raw A.dic.low ⟨o, e, c, d⟩ (pi_one (tk := s1.toks) I3 _ (turn_dic _ d) ⟨_, Heap.get?_push_size _ rfl, rfl, rfl⟩ (hc _ _ _ _ _ (st1.trans (Stp.write eh)) (rh1.writeO eh (show RepO X.kw (upd H1 a (pinO a o)) a (.fdic o kvs) from F)) (src_dic d) (q o)))
/-! the walk is over: the dict may be written again -/
def dThaw (t : S1) : S1 := fun D σ h => t { D with nx := fun σ' h' => ∃ a o kvs, h' a = some (.fdic o kvs) ∧ D.nx σ' (up h' a (.dic kvs)), bk := fun _ _ => False, ct := fun _ _ => False } σ h
theorem ds_thaw {X : Cx} {st : Stmt} {t : S1} (hs : DS X st t) : DS X st (dThaw t) := by
  refine ⟨fun pins s σV H DV I ⟨D, σ, h, hE, hH, ht, hc⟩ => ?_⟩
  refine thn (hs.run pins s σV H { DV with nx := fun σV' H' => ∃ σ' h' a o kvs, Stp h H h' H' ∧ RepE X.kw H' σ' σV' ∧ RepH X.kw h' H' ∧ h' a = some (.fdic o kvs) ∧ D.nx σ' (up h' a (.dic kvs)), bk := fun _ _ => False, ct := fun _ _ => False } I
    ⟨_, σ, h, hE, hH, ht, ⟨fun σ' h' σV' H' s' e' r' ⟨a, o, kvs, e, q⟩ => ⟨σ', h', a, o, kvs, s', e', r', e, q⟩, hc.rt, fun _ _ _ _ _ _ _ q => q.elim, fun _ _ _ _ _ _ _ q => q.elim⟩⟩) fun f s1 q => ?_
  cases f with
  | next =>
    obtain ⟨σ1, H1, I1, σ', h', a, o, kvs, s', e', r', eh, q⟩ := q
    have F := (show RepF X.kw H1 a o kvs from r' a _ eh)
    have eo := F.get I1
    obtain ⟨at_, low, len, cls, xs, es, ep, rn, tp, nd, ed, pr⟩ := F
    have I2 := d_write (h' := s1.heap) (t' := s1.toks) (a := a) (ob := dobj X.w a xs) I1 (by rw [at_]; exact True.intro) ⟨rfl, fun _ _ => rfl⟩ ⟨o, eo⟩ (dobj_ok ⟨o, es, ep, eo, cls, ed, pr⟩)
    have m : Mo X.kw H1 (upd H1 a (dobj X.w a xs)) := Mo.upd at_ rfl
    have w : Stp h' H1 (up h' a (.dic kvs)) (upd H1 a (dobj X.w a xs)) := Stp.write eh
    have rN : RepO X.kw (upd H1 a (dobj X.w a xs)) a (.dic kvs) := .inr ⟨xs, ⟨upd_same, rn.mono m, tp, nd, len, low⟩⟩
    exact ⟨σ1, _, I2, hc.nx σ' _ σ1 _ (s'.trans w) (e'.mono m) (r'.writeO eh rN) q⟩
  | cont => obtain ⟨_, _, _, q⟩ := q; exact False.elim q
  | brk => obtain ⟨_, _, _, q⟩ := q; exact False.elim q
  | ret v => exact q
end DL
namespace DL
open PySem PySem.Spec PyProof.Rows L2
/-! d.update(d2): keys that are tuples -/
def dputs (kvs more : Kvs) : Kvs := more.foldl (fun acc p => dset acc p.1 p.2) kvs
def updD : M1 := fun x ds h Q => match x, ds with
  | .ref a, [.ref b] => a ≠ b ∧ dctK (fun kvs => dctK (fun more => kvs.all (fun p => tupK p.1) = true ∧ more.all (fun p => tupK p.1) = true ∧ (kvs ≠ [] ∨ more.length ≤ 1) ∧ kvs.length + more.length ≤ sizeLine ∧ Q .none (up h a (.dic (dputs kvs more)))) (h b)) (h a)
  | _, _ => False
theorem dputs_len : ∀ (more kvs : Kvs), (dputs kvs more).length ≤ kvs.length + more.length
  | [], kvs => Nat.le_refl _
  | p :: more, kvs => by
    have h1 := dputs_len more (dset kvs p.1 p.2)
    have h2 := dset_len kvs p.1 p.2
    show (dputs (dset kvs p.1 p.2) more).length ≤ _
    rw [List.length_cons]; omega
theorem dputs_all {P : D → Bool} : ∀ {more kvs : Kvs}, kvs.all (fun p => P p.1) = true → more.all (fun p => P p.1) = true → (dputs kvs more).all (fun p => P p.1) = true
  | [], _, h, _ => h
  | p :: more, kvs, h, h2 => by
    rw [List.all_cons, Bool.and_eq_true] at h2
    exact dputs_all (more := more) (dset_all h h2.1) h2.2
def entPuts (xs more : List Ent) : List Ent := more.foldl (fun acc x => entPut acc x.1 x.2.1 x.2.2) xs
theorem entPuts_nd : ∀ (more xs : List Ent), (xs.map (·.1)).Nodup → ((entPuts xs more).map (·.1)).Nodup
  | [], _, h => h
  | x :: more, xs, h => entPuts_nd more _ (entPut_nd _ _ _ h)
theorem ent_puts {xs more : List Ent} {ys ms : List (NK × Addr × Value)} (p : Paired (fun (x : Ent) (y : NK × Addr × Value) => x.1 = y.1 ∧ x.2.1 = .ref y.2.1 ∧ RelV x.2.2 y.2.2) xs ys) (q : Paired (fun (x : Ent) (y : NK × Addr × Value) => x.1 = y.1 ∧ x.2.1 = .ref y.2.1 ∧ RelV x.2.2 y.2.2) more ms) :
    Paired (fun (x : Ent) (y : NK × Addr × Value) => x.1 = y.1 ∧ x.2.1 = .ref y.2.1 ∧ RelV x.2.2 y.2.2) (entPuts xs more) (storedAllH ys ms) := by
  induction q generalizing xs ys with
  | nil => exact p
  | @cons x y _ _ h t ih =>
    have := ent_put p x.1 y.2.1 x.2.2 h.2.2
    rw [← h.2.1] at this
    have e : storedH ys x.1 y.2.1 y.2.2 = storedH ys y.1 y.2.1 y.2.2 := by rw [h.1]
    rw [e] at this
    exact ih this
theorem dset_Ns {K : KW} {H : Hp} {more : Kvs} {ms : List Ent} (q : RepNs K H more ms) : ∀ {kvs : Kvs} {xs : List Ent}, RepNs K H kvs xs → RepNs K H (dputs kvs more) (entPuts xs ms) := by
  induction q with
  | nil => exact fun r => r
  | @cons p x _ _ h t ih => exact fun r => ih (dset_N r h.1 h.2.1 h.2.2)
end DL
namespace DL
open PySem PySem.Spec PyProof.Rows L2
theorem tup_type {X : Cx} {H : Hp} {s : Shared} {k : NK} {b : Addr} (h : (nkd X).is s.heap k b) (e : ∃ ks, k = .tup ks) : s.TypeIs (.ref b) "tuple" := by
  obtain ⟨ks, rfl⟩ := e
  have h1 : NestedIs s.heap (.tup ks) (.ref b) := h.1
  cases h1 with
  | tup e c n q => exact ⟨_, e, c⟩
theorem nd1 {ms : List (NK × Addr × Value)} {f : NK × Addr × Value → Int} (h : ms.length ≤ 1) : (ms.map f).Nodup := by
  match ms, h with
  | [], _ => exact List.nodup_nil
  | [m], _ => exact List.nodup_cons.mpr ⟨by simp, List.nodup_nil⟩
theorem xm_upd {X : Cx} (hu : X.A.units + 64 < cLine) : MtR X "dict.update" (lowM X.kw updD) := fun pins s σ H x vs v us QV I rx rvs ⟨d, ds, h, Q, rx', rv, hH, hr, hc⟩ => by
  unfold updD at hr
  split at hr
  · rename_i a b
    obtain ⟨ne, hr⟩ := hr
    obtain ⟨kvs, eh, hr⟩ := dctK_inv hr
    obtain ⟨more, eh2, al, al2, hap, hl, q⟩ := dctK_inv hr
    cases (show x = _ from rx')
    cases rx
    obtain ⟨w, rfl, r1⟩ := rep1 rv
    cases (show w = _ from r1)
    cases rvs with
    | cons ry rvs =>
      cases rvs
      cases ry
      obtain ⟨A⟩ := as_N I (hH a _ eh) al
      have I2 := A.to_ s I
      have roB : RepO X.kw (upd H a (dobj X.w a A.xs)) b (.dic more) := (hH b _ eh2).mono (A.mo _) fun u e => by rw [upd_ne (Ne.symm ne)]; exact e
      obtain ⟨B⟩ := as_N I2 roB al2
      have I3 := B.to_ s I2
      have dA : NDict X (upd (upd H a (dobj X.w a A.xs)) b (dobj X.w b B.xs)) a A.xs := ⟨by rw [upd_ne ne, upd_same], A.dic.low, A.dic.len, (A.rep.mono ((A.mo _).trans (B.mo _))).keys (fun p hp => List.all_eq_true.mp al p hp), A.dic.nd⟩
      obtain ⟨ys, dh, p⟩ := dA.heap I3
      obtain ⟨ms, dh2, p2⟩ := B.dic.heap I3
      have ly := p.length
      have lm := p2.length
      have lA := A.rep.length
      have lB := B.rep.length
      refine call_update_dictH (nroom hu) ne B.dic.low dh dh2 ?_ (by omega) fun h' dh' _ hs => ?_
      · rcases hap with hne | h1
        · refine .inl fun z => ?_
          have : kvs.length = 0 := by rw [lA, ly, z]; rfl
          exact hne (List.length_eq_zero_iff.mp this)
        · refine .inr ⟨fun y hy => ?_, ?_⟩
          · obtain ⟨o, es, ep, e, c, d, e1, e2, nd⟩ := dh2
            obtain ⟨i, hi⟩ := List.getElem?_of_mem hy
            obtain ⟨x, hx, q1⟩ := P2.get' p2 hi
            obtain ⟨kk, _, _⟩ := B.dic.key x (List.mem_of_getElem? hx)
            rw [q1.1] at kk
            exact tup_type (H := H) (e2 y hy) kk
          · exact nd1 (by omega)
      · have I4 := n_write (t' := s.toks) I3 dA dh' hs (ent_puts p p2)
        have eU : upd (upd (upd H a (dobj X.w a A.xs)) b (dobj X.w b B.xs)) a (dobj X.w a (entPuts A.xs B.xs)) = upd (upd H b (dobj X.w b B.xs)) a (dobj X.w a (entPuts A.xs B.xs)) := by
          funext c
          by_cases z : c = a
          · subst z; rw [upd_same, upd_same]
          · rw [upd_ne z, upd_ne z]
            by_cases y : c = b
            · subst y; rw [upd_same, upd_same]
            · rw [upd_ne y, upd_ne y, upd_ne z]
        rw [eU] at I4
        have hidB : ∃ ob, H b = some ob ∧ hid ob = false := RepO.hid (hH b _ eh2)
        obtain ⟨ob, eb, hb⟩ := hidB
        have mB : Mo X.kw H (upd H b (dobj X.w b B.xs)) := Mo.upd eb hb
        have hidA : ∃ oa, H a = some oa ∧ hid oa = false := RepO.hid (hH a _ eh)
        obtain ⟨oa, ea, ha⟩ := hidA
        have mBack : Mo X.kw (upd H a (dobj X.w a A.xs)) H := by
          have := Mo.upd (K := X.kw) (o := oa) (upd_same (H := H) (a := a) (o := dobj X.w a A.xs)) rfl
          rw [upd_upd, upd_id ea] at this
          exact this
        have rB : RepNs X.kw H more B.xs := B.rep.mono mBack
        have wB : Stp h H (up h b (.dic more)) (upd H b (dobj X.w b B.xs)) := Stp.write eh2
        have nB : RepN X.kw (upd H b (dobj X.w b B.xs)) b more B.xs := ⟨upd_same, rB.mono mB, fun p hp => List.all_eq_true.mp al2 p hp, B.dic.nd, by omega, B.dic.low⟩
        have hB := hH.writeO eh2 (show RepO X.kw (upd H b (dobj X.w b B.xs)) b (.dic more) from .inr ⟨_, nB⟩)
        rw [up_id eh2] at wB hB
        have mA : Mo X.kw (upd H b (dobj X.w b B.xs)) (upd (upd H b (dobj X.w b B.xs)) a (dobj X.w a (entPuts A.xs B.xs))) := Mo.upd (by rw [upd_ne ne]; exact ea) ha
        have rA : RepNs X.kw (upd H b (dobj X.w b B.xs)) (dputs kvs more) (entPuts A.xs B.xs) := dset_Ns (rB.mono mB) (A.rep.mono mB)
        have nA : RepN X.kw (upd (upd H b (dobj X.w b B.xs)) a (dobj X.w a (entPuts A.xs B.xs))) a (dputs kvs more) (entPuts A.xs B.xs) := ⟨upd_same, rA.mono mA, fun p hp => List.all_eq_true.mp (dputs_all al al2) p hp, entPuts_nd _ _ A.dic.nd, Nat.le_trans (dputs_len _ _) hl, A.dic.low⟩
        have wA : Stp h (upd H b (dobj X.w b B.xs)) (up h a (.dic (dputs kvs more))) (upd (upd H b (dobj X.w b B.xs)) a (dobj X.w a (entPuts A.xs B.xs))) := Stp.write eh
        exact ⟨.non, _, I4, rfl, hc _ _ _ _ (wB.trans wA) (hB.writeO eh (show RepO X.kw _ a (.dic (dputs kvs more)) from .inr ⟨_, nA⟩)) (show RepV X.kw _ D.none V.non from rfl) q⟩
  · exact hr.elim
end DL
namespace DL
open PySem PySem.Spec PyProof.Rows L2
/-! a dict of the module: texts to tuples of texts; D.get(text, other) -/
def TupAt (K : PySem.W.Frag) (a : Addr) (zs : List Str) : Prop := ∃ (o : Obj) (its : Array Value) (m : Nat), K.lookup a = some o ∧ o.cls = .type "tuple" ∧ o.data = .seq its m ∧ its.size ≤ sizeLine ∧ Vals (zs.map V.str) its.toList
theorem tupAt_of {K : PySem.W.Frag} {a : Addr} {dd : Option Addr} {its : Array Value} {m : Nat} {sl : Array (Option Value)} {zs : List Str} (h2 : K.lookup a = some ⟨.type "tuple", dd, .seq its m, sl⟩) (h3 : strsV its.toList = some zs) (h4 : zs.length ≤ sizeLine) : TupAt K a zs := by
  have v := strsV_vals h3
  have e := v.length
  rw [List.length_map] at e
  have e2 : its.toList.length = its.size := Array.length_toList
  exact ⟨_, its, m, h2, rfl, rfl, by omega, v⟩
/-- entries: texts, addresses -/
theorem entsV_find : ∀ {l : List DictEntry} {ts : List (Str × Addr)}, entsV l = some ts → ∀ z : Str, (l.find? fun d => Value.isStrOf z d.key).map (·.val) = (ts.lookup z).map Value.ref
  | [], ts, h, z => by cases h; rfl
  | e :: r, ts, h, z => by
    obtain ⟨eh, ek, ev⟩ := e
    cases ek <;> first | (cases h; done) | skip
    case str x t =>
      cases ev <;> first | (cases h; done) | skip
      case ref b =>
        obtain ⟨us, e, rfl⟩ := Option.map_eq_some_iff.mp (show (entsV r).map ((x, b) :: ·) = some ts from h)
        have ih := entsV_find e z
        have es : Value.isStrOf z (.str x t) = (x == z) := rfl
        rw [List.find?_cons, List.lookup_cons]
        show (match Value.isStrOf z (.str x t) with | true => some _ | false => _).map _ = _
        rw [es]
        by_cases q : x = z
        · subst q; simp
        · have q2 : (x == z) = false := beq_eq_false_iff_ne.mpr q
          have q3 : (z == x) = false := beq_eq_false_iff_ne.mpr fun y => q y.symm
          rw [q2, q3]
          exact ih
def DicG (K : PySem.W.Frag) (w : World) (mg : Str → Option Value) (n : Str) (kvs : List (Str × List Str)) : Prop := ∃ (a : Addr) (es : Array DictEntry) (m : Nat) (ts : List (Str × Addr)), mg n = some (.ref a) ∧ K.lookup a = some ⟨.type "dict", none, .dict es m, #[]⟩ ∧ PySem.W.KeysLit w.params es.toList ∧ (a == sysModules) = false ∧ entsV es.toList = some ts ∧ Paired (fun (p : Str × List Str) (q : Str × Addr) => p.1 = q.1 ∧ TupAt K q.2 p.2) kvs ts
def dGetG (kvs : List (Str × List Str)) (te td : E1) : E1 := fun σ h Q => te σ h fun x h1 => td σ h1 fun y h2 => ∃ z, x = .str z ∧ Q (((kvs.lookup z).map fun zs => D.tup (zs.map D.str)).getD y) h2
theorem look_pair {K : PySem.W.Frag} {kvs : List (Str × List Str)} {ts : List (Str × Addr)} (p : Paired (fun (p : Str × List Str) (q : Str × Addr) => p.1 = q.1 ∧ TupAt K q.2 p.2) kvs ts) (z : Str) : (kvs.lookup z = none ∧ ts.lookup z = none) ∨ ∃ zs b, kvs.lookup z = some zs ∧ ts.lookup z = some b ∧ TupAt K b zs := by
  induction p with
  | nil => exact .inl ⟨rfl, rfl⟩
  | @cons x y _ _ h t ih =>
    obtain ⟨x1, x2⟩ := x
    obtain ⟨y1, y2⟩ := y
    obtain ⟨e, tt⟩ := h
    simp only at e tt
    subst e
    rw [List.lookup_cons, List.lookup_cons]
    cases z == x1 with
    | true => exact .inr ⟨_, _, rfl, rfl, tt⟩
    | false => exact ih
theorem mem_look {kvs : List (Str × List Str)} {z : Str} {zs : List Str} (h : kvs.lookup z = some zs) : (z, zs) ∈ kvs := by
  induction kvs with
  | nil => cases h
  | cons p r ih =>
    obtain ⟨k, v⟩ := p
    rw [List.lookup_cons] at h
    by_cases e : z = k
    · subst e; simp at h; subst h; exact List.mem_cons_self
    · rw [beq_eq_false_iff_ne.mpr e] at h
      exact List.mem_cons_of_mem _ (ih h)
def gGK (kvs : List (Str × List Str)) (ds : List D) (h2 : MH) (Q : KD) : Prop := match ds with
  | [x, y] => ∃ z, x = .str z ∧ Q (((kvs.lookup z).map fun zs => D.tup (zs.map D.str)).getD y) h2
  | _ => False
theorem gGK_inv {kvs : List (Str × List Str)} {ds : List D} {h2 : MH} {Q : KD} (q : gGK kvs ds h2 Q) : ∃ x y, ds = [x, y] ∧ ∃ z, x = .str z ∧ Q (((kvs.lookup z).map fun zs => D.tup (zs.map D.str)).getD y) h2 := by
  unfold gGK at q
  split at q
  · exact ⟨_, _, rfl, q⟩
  · exact q.elim
theorem de_getG {X : Cx} {n : Str} {kvs : List (Str × List Str)} {e d : Expr} {te td : E1} {p0 apos cpos : Pos} (hg : Gl X n) (hm : DicG X.K X.w X.mg n kvs) (ok : ∀ p ∈ kvs, ∀ z ∈ p.2, okS z) (he : DA X [e, d] (dCons te (dCons td dNil))) (hdb : (n == ("__debug__" : Str)) = false := by decide)
    (hbase : attributeBase (.Name n p0) "get" X.env (eval (.Name n p0) X.env) = eval (.Name n p0) X.env := by rfl)
    (hfew : ((backTo cpos (starEach [e, d] X.env)).all (fun x => !x.1) && (backToKw cpos (keywordEach [] X.env)).all (fun x => x.1.isSome)
      && decide ([e, d].length + ([] : List Keyword).length + (if ([] : List Keyword).isEmpty then 0 else 1) < 30)) = true := by rfl)
    (hline : (apos.endLine == cpos.line) = true := by rfl) (hs : starEach [e, d] X.env = (false, eval e X.env) :: starEach [d] X.env := by rfl) (hplain : (backTo cpos (starEach [d] X.env)).any (·.1) = false := by rfl) :
    DE X (.Call (.Attribute (.Name n p0) "get" apos) [e, d] [] cpos) (dGetG kvs te td) := by
  obtain ⟨a, es, m, ts, hmg, hk, hl, lo, he2, pr⟩ := hm
  refine ⟨fun pins s σV H QV I ⟨σ, h, Q, hE, hH, ht, hc⟩ => ?_⟩
  refine wpAny_Call_method_late hbase hfew hline rfl (ld_glob I hg hmg ?_ hdb)
  have mp : ∀ {s' : Shared} {σ' : L2.St} {H' : Hp}, Inv X pins σ' H' s' → s'.heap.MapOf (strKind X.prog X.w) a (fun k => findBy Value.isStrOf es k) := fun {s' σ' H'} I' => PySem.W.mapOf_K (prog := X.prog) I'.kIn hk hl
  refine ⟨"dict", "dict.get", PySem.F.plainAttrs_dict, PySem.F.slot_dict_get, PySem.F.type_dict_get, (mp I).typeIs, fun b q => by cases q; exact ⟨_, I.kIn a _ hk, rfl⟩, ?_⟩
  have hA := he.run cpos pins s σV H (fun vs H2 => ∃ x y h2, Stp h H h2 H2 ∧ RepH X.kw h2 H2 ∧ RepVs X.kw H2 [x, y] vs ∧ ∃ z, x = .str z ∧ Q (((kvs.lookup z).map fun zs => D.tup (zs.map D.str)).getD y) h2) I
    ⟨σ, h, (fun ds h2 => gGK kvs ds h2 Q), hE, hH, ht, fun ds h2 vs H2 s2 hH2 r2 q => by
      obtain ⟨x, y, rfl, q⟩ := gGK_inv q
      exact ⟨x, y, h2, s2, hH2, r2, q⟩⟩
  rw [hs] at hA ⊢
  refine Calls.callWith_builtin (by show (false || (backTo cpos (starEach [d] X.env)).any (·.1)) = false; rw [hplain] <;> rfl) (Calls.evalArgs_plain ?_)
  refine thn hA fun us s2 ⟨vs, H2, I2, r2, x, y, h2, s2', hH2, rvs, z, ez, q2⟩ => ?_
  subst ez
  obtain ⟨v1, v2, rfl, q3, q4⟩ := rep2 rvs
  cases r2 with
  | cons ra r2 =>
    cases r2 with
    | cons rb r2 =>
      cases r2
      obtain ⟨q5, q6⟩ := (show v1 = .str z ∧ okS z from q3)
      subst q5
      obtain ⟨t, rfl⟩ := ra
      refine call_meetsIn PySem.F.slot_dict_get (mp I2).typeIs PySem.F.entry_dict_get (PySem.F.args_dict_get_3 _ _ _) (meets_dict_get_default (strKind X.prog X.w) a (strKind_is X.prog X.w z t) lo _) ⟨_, mp I2, ?_⟩
      have ff : findBy Value.isStrOf es z = (ts.lookup z).map Value.ref := by
        rw [← entsV_find he2 z]
        unfold findBy
        obtain ⟨l⟩ := es
        rw [List.find?_toArray]
      rw [ff]
      have I3 := I2.tok (s2.toks + 1)
      rcases look_pair pr z with ⟨k1, k2⟩ | ⟨zs, b, k1, k2, o, its, m', g1, g2, g3, g4, g5⟩
      · rw [k1] at q2
        rw [k2]
        exact ⟨v2, H2, I3, rb, hc _ _ _ _ s2' hH2 q4 q2⟩
      · rw [k1] at q2
        rw [k2]
        have rt : RepV X.kw H2 (.tup (zs.map D.str)) (.ref b) := ⟨b, zs.map V.str, rfl, .inr ⟨o, its, m', g1, g2, g3, g4, g5⟩, reps_strs (ok (z, zs) (mem_look k1))⟩
        exact ⟨.ref b, H2, I3, rfl, hc _ _ _ _ s2' hH2 rt q2⟩
/-! list(d): the keys -/
def listKD (x : D) (h : MH) (Q : KD) : Prop := match x with
  | .ref a => dctK (fun kvs => kvs.all (fun p => (scaK p.1).isSome) = true ∧ ∀ p, h p = none → Q (.ref p) (up h p (.lst (kvs.map (·.1))))) (h a)
  | _ => False
theorem xd_listK {X : Cx} (hcalm : X.calm = true) : CallR X (.type "list") (lowC X.kw (on1 listKD)) := by
  intro pins s σ H vs us QV I r0 ⟨ds0, h, Q, rv0, hH, hr, hc⟩
  obtain ⟨d, rfl, hr⟩ := on1_inv hr
  obtain ⟨x, rfl, rx⟩ := rep1 rv0
  replace hr : listKD d h Q := hr
  unfold listKD at hr
  split at hr
  · rename_i a _
    obtain ⟨kvs, eh, al, q⟩ := dctK_inv hr
    cases (show x = _ from rx)
    obtain ⟨A⟩ := as_K I (hH a _ eh) al
    have I2 := A.to_ s I
    have w : Stp h H (up h a (.dic kvs)) (upd H a (.dK A.kv)) := Stp.write eh
    have r2 := hH.writeO eh (show RepO X.kw (upd H a (.dK A.kv)) a (.dic kvs) from .inl ⟨A.kv, upd_same, A.rep.mono (A.mo _)⟩)
    rw [up_id eh] at w r2
    have ek : (A.kv.map fun kv => kV kv.1) = (A.kv.map (·.1)).map kV := by rw [List.map_map]; rfl
    refine call_list_dK hcalm pins s σ _ _ us QV I2 r0 ⟨a, A.kv, rfl, upd_same, fun p np => ?_⟩
    rw [ek]
    have rk : RepVs X.kw (upd H a (.dK A.kv)) (kvs.map (·.1)) ((A.kv.map (·.1)).map kV) := reps_keys (A.rep.mono (A.mo _))
    exact (hc.step w).new r2 np rk (q p (r2.nofresh np))
  · exact hr.elim
theorem v_listK {a : Addr} {h : MH} {Q : KD} : listKD (.ref a) h Q = dctK (fun kvs => kvs.all (fun p => (scaK p.1).isSome) = true ∧ ∀ p, h p = none → Q (.ref p) (up h p (.lst (kvs.map (·.1))))) (h a) := rfl
/-! texts that are fit -/
theorem oks_nil : ∀ z ∈ ([] : List Str), okS z := fun _ h => nomatch h
theorem oks_cons {z : Str} {zs : List Str} (h : okS z) (t : ∀ z ∈ zs, okS z) : ∀ y ∈ z :: zs, okS y := fun y hy => by
  rcases List.mem_cons.mp hy with rfl | hy
  · exact h
  · exact t y hy
theorem okp_nil : ∀ p ∈ ([] : List (Str × List Str)), ∀ z ∈ p.2, okS z := fun _ h => nomatch h
theorem okp_cons {k : Str} {zs : List Str} {kvs : List (Str × List Str)} (h : ∀ z ∈ zs, okS z) (t : ∀ p ∈ kvs, ∀ z ∈ p.2, okS z) : ∀ p ∈ (k, zs) :: kvs, ∀ z ∈ p.2, okS z := fun y hy => by
  rcases List.mem_cons.mp hy with rfl | hy
  · exact h
  · exact t y hy
end DL
namespace DL
open PySem PySem.Spec PyProof.Rows L2
/-! a dict of the module: texts to texts; x in D, D[x] -/
theorem strsE_find : ∀ {l : List DictEntry} {ts : List (Str × Str)}, strsE l = some ts → ∀ z : Str, ((l.find? fun d => Value.isStrOf z d.key).map (·.val) = none ∧ ts.lookup z = none) ∨ ∃ v t, (l.find? fun d => Value.isStrOf z d.key).map (·.val) = some (Value.str v t) ∧ ts.lookup z = some v
  | [], ts, h, z => by cases h; exact .inl ⟨rfl, rfl⟩
  | e :: r, ts, h, z => by
    obtain ⟨eh, ek, ev⟩ := e
    cases ek <;> first | (cases h; done) | skip
    case str x t =>
      cases ev <;> first | (cases h; done) | skip
      case str b t2 =>
        obtain ⟨us, e, rfl⟩ := Option.map_eq_some_iff.mp (show (strsE r).map ((x, b) :: ·) = some ts from h)
        have ih := strsE_find e z
        have es : Value.isStrOf z (.str x t) = (x == z) := rfl
        rw [List.find?_cons, List.lookup_cons]
        dsimp only
        rw [es]
        by_cases q : x = z
        · subst q
          have q3 : (x == x) = true := beq_self_eq_true x
          rw [q3]
          exact .inr ⟨b, t2, rfl, rfl⟩
        · have q2 : (x == z) = false := beq_eq_false_iff_ne.mpr q
          have q3 : (z == x) = false := beq_eq_false_iff_ne.mpr fun y => q y.symm
          rw [q2, q3]
          exact ih
def DicS (K : PySem.W.Frag) (w : World) (mg : Str → Option Value) (n : Str) (kvs : List (Str × Str)) : Prop := ∃ (a : Addr) (es : Array DictEntry) (m : Nat), mg n = some (.ref a) ∧ KDict K w a es m ∧ strsE es.toList = some kvs
theorem findS {es : Array DictEntry} {kvs : List (Str × Str)} (h : strsE es.toList = some kvs) (z : Str) : (findBy Value.isStrOf es z = none ∧ kvs.lookup z = none) ∨ ∃ v t, findBy Value.isStrOf es z = some (Value.str v t) ∧ kvs.lookup z = some v := by
  have e : findBy Value.isStrOf es z = (es.toList.find? fun d => Value.isStrOf z d.key).map (·.val) := by
    unfold findBy
    obtain ⟨l⟩ := es
    rw [List.find?_toArray]
  rw [e]
  exact strsE_find h z
section
variable {X : Cx} {a : Addr} {es : Array DictEntry} {m : Nat} {kvs : List (Str × Str)}
theorem op_inS (D : KDict X.K X.w a es m) (h : strsE es.toList = some kvs) : OpR X (compareOp .In) (fun x y H Q => ∃ z : Str, x = .str z ∧ y = .ref a ∧ Q (.bl (kvs.lookup z).isSome) H) := by
  intro pins s σ H x y v u Q I rx ry ⟨z, e1, e2, q⟩
  subst e1 e2
  obtain ⟨t, rfl⟩ := rx
  cases ry
  refine wpAny_in_of (PySem.strKind_is X.prog X.w z t) D.low (PySem.W.mapOf_K (prog := X.prog) I.kIn D.at_ D.lit) ?_
  rcases findS h z with ⟨f, g⟩ | ⟨v1, t1, f, g⟩
  · rw [g] at q
    rw [f]
    exact ⟨.bl false, H, I.tok _, rfl, q⟩
  · rw [g] at q
    rw [f]
    exact ⟨.bl true, H, I.tok _, rfl, q⟩
theorem ix_S (D : KDict X.K X.w a es m) (h : strsE es.toList = some kvs) : IxR X (fun x y H Q => ∃ z v : Str, x = .ref a ∧ y = .str z ∧ kvs.lookup z = some v ∧ Q (.str v) H) := by
  intro value slice pins s σ H x y v u Q I rx ry ⟨z, v0, e1, e2, e3, q⟩ hs
  subst e1 e2
  cases rx
  obtain ⟨t, rfl⟩ := ry
  refine tail_any (kd_type D I) PySem.F.slot_dict_getitem.lookup ?_ hs
  rcases findS h z with ⟨f, g⟩ | ⟨v1, t1, f, g⟩
  · rw [g] at e3; cases e3
  · rw [g] at e3
    cases e3
    exact wpAny_getItem_of (PySem.strKind_is X.prog X.w z t) (PySem.W.mapOf_K (prog := X.prog) I.kIn D.at_ D.lit) f ⟨.str v0, H, I.tok _, ⟨t1, rfl⟩, q⟩
end
def inSD (kvs : List (Str × Str)) (x : D) (h : MH) (Q : KD) : Prop := match x with
  | .str z => Q (.bool (kvs.lookup z).isSome) h
  | _ => False
def ixSD (kvs : List (Str × Str)) (x : D) (h : MH) (Q : KD) : Prop := match x with
  | .str z => ∃ v, kvs.lookup z = some v ∧ Q (.str v) h
  | _ => False
theorem de_inS {X : Cx} {n : Str} {kvs : List (Str × Str)} {e : Expr} {te : E1} {p0 pos : Pos} (hg : Gl X n) (hm : DicS X.K X.w X.mg n kvs) (he : DE X e te) (hd : (n == ("__debug__" : Str)) = false := by decide) (hb : behindInMarks .In (.Name n p0) = false := by rfl) :
    DE X (.Compare e [.In] [.Name n p0] pos) (dUn (inSD kvs) te) := by
  obtain ⟨a, es, m, hmg, D, hs⟩ := hm
  refine weakE (pe_cmpR (op_inS D hs) he (pe_glob (v := V.ref a) hg hmg rfl hd) hb) fun σV H QV ⟨σ, h, Q, hE, hH, ht, hc⟩ => ?_
  refine ⟨σ, h, _, hE, hH, ht, fun x h1 v1 H1 s1 hH1 r1 q1 => ?_⟩
  have q1 : inSD kvs x h1 Q := q1
  unfold inSD at q1
  split at q1
  · obtain ⟨rfl, ok⟩ := r1
    exact ⟨_, rfl, rfl, hc (.bool _) h1 (.bl _) H1 s1 hH1 rfl q1⟩
  · exact q1.elim
theorem dt_inS {X : Cx} {n : Str} {kvs : List (Str × Str)} {e : Expr} {te : E1} {p0 pos : Pos} (hg : Gl X n) (hm : DicS X.K X.w X.mg n kvs) (he : DE X e te) (hd : (n == ("__debug__" : Str)) = false := by decide) (hb : behindInMarks .In (.Name n p0) = false := by rfl) :
    DT X (.Compare e [.In] [.Name n p0] pos) (dTest (dUn (inSD kvs) te)) := by
  obtain ⟨a, es, m, hmg, D, hs⟩ := hm
  refine weakT (pt_cmpR (op_inS D hs) he (pe_glob (v := V.ref a) hg hmg rfl hd) hb) fun σV H QV ⟨σ, h, Q, hE, hH, ht, hc⟩ => ?_
  refine ⟨σ, h, _, hE, hH, ht, fun x h1 v1 H1 s1 hH1 r1 q1 => ?_⟩
  have q1 : inSD kvs x h1 (asB Q) := q1
  unfold inSD at q1
  split at q1
  · obtain ⟨rfl, ok⟩ := r1
    exact ⟨_, rfl, rfl, _, rfl, hc _ h1 H1 s1 hH1 q1⟩
  · exact q1.elim
theorem de_ixS {X : Cx} {n : Str} {kvs : List (Str × Str)} {e : Expr} {te : E1} {p0 pos : Pos} (hg : Gl X n) (hm : DicS X.K X.w X.mg n kvs) (ok : ∀ p ∈ kvs, okS p.2) (he : DE X e te) (hs : PlainIx e) (hd : (n == ("__debug__" : Str)) = false := by decide) :
    DE X (.Subscript (.Name n p0) e pos) (dUn (ixSD kvs) te) := by
  obtain ⟨a, es, m, hmg, D, hh⟩ := hm
  refine weakE (pe_ix (ix_S D hh) (pe_glob (v := V.ref a) hg hmg rfl hd) he hs) fun σV H QV ⟨σ, h, Q, hE, hH, ht, hc⟩ => ?_
  refine ⟨σ, h, _, hE, hH, ht, fun x h1 v1 H1 s1 hH1 r1 q1 => ?_⟩
  have q1 : ixSD kvs x h1 Q := q1
  unfold ixSD at q1
  split at q1
  · obtain ⟨rfl, ok1⟩ := r1
    obtain ⟨v, e1, q⟩ := q1
    have mm : ∀ {l : List (Str × Str)} {z v : Str}, l.lookup z = some v → (z, v) ∈ l := by
      intro l
      induction l with
      | nil => intro z v h; cases h
      | cons p r ih =>
        intro z v h
        obtain ⟨k, y⟩ := p
        rw [List.lookup_cons] at h
        by_cases e : z = k
        · subst e; simp at h; subst h; exact List.mem_cons_self
        · rw [beq_eq_false_iff_ne.mpr e] at h
          exact List.mem_cons_of_mem _ (ih h)
    exact ⟨_, v, rfl, rfl, e1, hc (.str v) h1 (.str v) H1 s1 hH1 ⟨rfl, ok _ (mm e1)⟩ q⟩
  · exact q1.elim
theorem okq_nil : ∀ p ∈ ([] : List (Str × Str)), okS p.2 := fun _ h => nomatch h
theorem okq_cons {k z : Str} {kvs : List (Str × Str)} (h : okS z) (t : ∀ p ∈ kvs, okS p.2) : ∀ p ∈ (k, z) :: kvs, okS p.2 := fun y hy => by
  rcases List.mem_cons.mp hy with rfl | hy
  · exact h
  · exact t y hy
/-! int(text) -/
def intSD (x : D) (h : MH) (Q : KD) : Prop := match x with
  | .str a => ∃ n, PySem.intText? a = some n ∧ a.length ≤ 640 ∧ Q (.int n) h
  | _ => False
theorem xd_intS {X : Cx} : CallR X (.type "int") (lowC X.kw (on1 intSD)) := callR_1 fun x d h H Q QV rx hH hr hc => by
  cases d <;> try exact hr.elim
  case str z =>
    obtain ⟨rfl, ok⟩ := rx
    obtain ⟨n, h1, h2, q⟩ := hr
    exact ⟨_, call_int_str, z, n, rfl, h1, h2, hc.int hH q⟩
end DL
namespace DL
open PySem PySem.Spec PyProof.Rows L2
/-! a tuple some times -/
def mulTD : R1 := fun x y h Q => match x, y with
  | .tup ds, .int k => ds ≠ [] ∧ (2 ≤ k ∧ k ≤ 1000) ∧ ds.length ≤ 1000 ∧ Q (.tup (List.replicate k.toNat ds).flatten) h
  | _, _ => False
theorem od_mulT {X : Cx} : OpR X (binaryOp .Mult) (lowR X.kw mulTD) := opR_of fun x y H QV ⟨d, e, h, Q, rx, ry, hH, hr, hc⟩ => by
  cases d <;> cases e <;> try exact hr.elim
  case tup.int ds k =>
    obtain ⟨p, vs, rfl, s1, r1⟩ := rx
    cases (show y = _ from ry)
    obtain ⟨ne, hk, hl, q⟩ := hr
    refine ⟨_, op_repT, p, k, vs, rfl, rfl, s1, fun z => ?_, hk.1, hk.2, by rw [← r1.length]; exact hl, fun l n => hc.tup hH n (.of (P2.rep r1.pair _)) q⟩
    subst z
    exact ne (List.eq_nil_of_length_eq_zero r1.length)
theorem v_mulT {ds : List D} {k : Int} {h : MH} {Q : KD} : mulTD (.tup ds) (.int k) h Q = (ds ≠ [] ∧ (2 ≤ k ∧ k ≤ 1000) ∧ ds.length ≤ 1000 ∧ Q (.tup (List.replicate k.toNat ds).flatten) h) := rfl
/-! a, b = a list -/
def gLs (n : Nat) (gs : Gs1) : G1 := fun d σ h Q => match d with
  | .ref p => ∃ ds, h p = some (.lst ds) ∧ ds.length = n ∧ gs ds σ h Q
  | _ => False
theorem dg_unl {X : Cx} {P : Pr} {es : List Expr} {k : Nat} {gs : Gs1} {n : Nat} {pos : Pos} (hc : X.calm = true) (a : DGs X P es gs) (hn : (assignEach es X.env).length = n := by rfl) (hst : (assignEach es X.env).findIdx? (·.1) = none := by rfl) : DG X P (.Tuple es k pos) (gLs n gs) :=
  weakG (pg_unl hc a hn hst) fun v σV H QV ⟨d, σ, h, Q, rv, hE, hH, hg, hc⟩ => by
    cases d with
    | ref p =>
      obtain ⟨ds, e, l, g⟩ := hg
      cases (show v = _ from rv)
      obtain ⟨vs, f1, r1⟩ := hH _ _ e
      exact ⟨p, vs, rfl, .inl (.inl f1), by rw [← r1.length]; exact l, ds, σ, h, Q, r1, hE, hH, g, hc⟩
    | _ => exact hg.elim
theorem e_gLs {k : Nat} {gs : Gs1} {p : Addr} {σ : Sl} {h : MH} {n : Sl → MH → Prop} : gLs k gs (.ref p) σ h n = ∃ ds, h p = some (.lst ds) ∧ ds.length = k ∧ gs ds σ h n := rfl
end DL
namespace DL
open PySem PySem.Spec PyProof.Rows L2
/-! the head by one kernel run: what the end wants is read off the heap by one Hook -/
theorem DefZ.fn {K : PySem.W.Frag} {d : DefZ} (e : fnZ K (d.at_ K) = d.val) (c : d.ok K = true) : ∃ fd, Fun K d.name d.qual d.st (d.at_ K) fd := by
  obtain ⟨kp, c2⟩ := He.ba c
  unfold fnZ at e
  unfold codeZ at c2
  cases q : K.lookup (d.at_ K) with
  | none =>
    rw [q] at c2
    cases c2
  | some o =>
    obtain ⟨oc, od, dt, osl⟩ := o
    rw [q] at c2 e
    cases dt with
    | func fd =>
      obtain ⟨n1, n2, n3, n4, n5, n6, n7, n8, n9, n10, n11, n12, n13, n14, n15⟩ := fd
      have e2 : (some (n1, n2, n3, n4, n5, n6, n7, n8, n15) : FnZ) = some (d.name, d.qual, defArgs d.st, .stmts (defBody d.st), defScope d.st, mainGlobals, [], .none, builtinsNs) := e
      simp only [Option.some.injEq, Prod.mk.injEq] at e2
      obtain ⟨h1, h2, h3, h4, h5, h6, h7, h8, h9⟩ := e2
      subst h1 h2 h3 h4 h5 h6 h7 h8 h9
      exact ⟨_, ⟨oc, od, n9, n10, n11, n12, n13, n14, osl, rfl, q, c2⟩, kp⟩
    | _ => cases c2
theorem tupZ_ok {K : PySem.W.Frag} {a : Addr} {zs : List Str} (h : tupZ K a zs = true) : TupAt K a zs := by
  unfold tupZ at h
  cases q : K.lookup a with
  | none =>
    rw [q] at h
    cases h
  | some o =>
    obtain ⟨oc, od, dt, osl⟩ := o
    rw [q] at h
    cases oc with
    | type c =>
      cases dt with
      | seq its n =>
        obtain ⟨h1, h2⟩ := He.ba (show (decide (c = "tuple") && (decide (zs.length ≤ sizeLine) && decide (strsV its.toList = some zs))) = true from h)
        obtain ⟨h3, h4⟩ := He.ba h2
        rw [of_decide_eq_true h1] at q
        exact tupAt_of q (of_decide_eq_true h4) (of_decide_eq_true h3)
      | _ => cases h
    | _ => cases dt <;> cases h
theorem pairZ_ok {K : PySem.W.Frag} : ∀ {ps : List (Str × List Str)} {qs : List (Str × Addr)}, pairZ K ps qs = true → Paired (fun (p : Str × List Str) (q : Str × Addr) => p.1 = q.1 ∧ TupAt K q.2 p.2) ps qs
  | [], [], _ => .nil
  | [], _ :: _, h => by cases h
  | _ :: _, [], h => by cases h
  | p :: ps, q :: qs, h => by
    obtain ⟨h1, h2⟩ := He.ba (show (decide (p.1 = q.1) && (tupZ K q.2 p.2 && pairZ K ps qs)) = true from h)
    obtain ⟨h3, h4⟩ := He.ba h2
    exact .cons ⟨of_decide_eq_true h1, tupZ_ok h3⟩ (pairZ_ok h4)
theorem propZ_ok {K : PySem.W.Frag} {C m : Str} (h : (Fz.prop C m).ok K = true) : PropOf K (He.ga K C) m (He.ma K (He.ga K C) m) (pAd K C m) := by
  obtain ⟨h1, h2⟩ := He.ba h
  obtain ⟨h3, h4⟩ := He.ba h2
  obtain ⟨h5, h6⟩ := He.ba h4
  refine ⟨He.eqO_ok h1, He.eqO_ok h3, of_decide_eq_true h5, ?_⟩
  unfold pAd
  cases q : PySem.W.recIn K (He.ma K (He.ga K C) m) "property" with
  | none =>
    rw [q] at h6
    cases h6
  | some l =>
    rw [q] at h6
    cases l with
    | nil => cases h6
    | cons v r =>
      cases v with
      | ref f => exact ⟨r, rfl⟩
      | _ => cases h6
theorem dicZ_ok {K : PySem.W.Frag} {w : World} {mg : Str → Option Value} {x : Str} {kvs : List (Str × List Str)} (hm : mg x = some (.ref (He.ga K x))) (h : (Fz.dic x kvs).ok K = true) (t : ∃ es n, KDict K w (He.ga K x) es n) : DicG K w mg x kvs := by
  obtain ⟨es, n, D⟩ := t
  have h1 : dicZ K (He.ga K x) kvs = true := h
  unfold dicZ at h1
  rw [D.at_] at h1
  have h2 : (match entsV es.toList with
    | some ts => pairZ K kvs ts
    | none => false) = true := h1
  cases q : entsV es.toList with
  | none =>
    rw [q] at h2
    cases h2
  | some ts =>
    rw [q] at h2
    exact ⟨_, es, n, ts, hm, D.at_, D.lit, D.low, q, pairZ_ok h2⟩
theorem dicS_ok {K : PySem.W.Frag} {w : World} {mg : Str → Option Value} {x : Str} {kvs : List (Str × Str)} (hm : mg x = some (.ref (He.ga K x))) (h : (Fz.dis x kvs).ok K = true) (t : ∃ es n, KDict K w (He.ga K x) es n) : DicS K w mg x kvs := by
  obtain ⟨es, n, D⟩ := t
  have h1 : disZ K (He.ga K x) kvs = true := h
  unfold disZ at h1
  rw [D.at_] at h1
  exact ⟨_, es, n, hm, D, of_decide_eq_true h1⟩
theorem tupG_at {K : PySem.W.Frag} {mg : Str → Option Value} {x : Str} {zs : List Str} (hm : mg x = some (.ref (He.ga K x))) (h : (Fz.tup x zs).ok K = true) : TupG K mg x zs := by
  obtain ⟨o, its, m, a, b, c, d, e⟩ := tupZ_ok h
  exact ⟨_, o, its, m, hm, a, b, c, d, e⟩
section
variable {fz : List Fz} {fn : List DefZ} {ts : List He.Tab} {w : World} {K : PySem.W.Frag}
theorem SaysZ.fact (c : SaysZ fz fn ts w K) (i : Nat) {f : Fz} (h : fz[i]? = some f := by rfl) : f.ok K = true := by
  have c1 := (He.ba (show ((fz.all fun f => f.ok K) && (fn.all fun d => d.ok K)) = true from congrArg (fun z : AlZ => z.1) c)).1
  exact List.all_eq_true.mp c1 f (List.mem_of_getElem? h)
theorem SaysZ.heF (c : SaysZ fz fn ts w K) (i : Nat) {f : He.Fa} (h : fz[i]? = some (.he f) := by rfl) : f.ok K = true := c.fact i h
theorem SaysZ.def_ (c : SaysZ fz fn ts w K) (i : Nat) {d : DefZ} (h : fn[i]? = some d := by rfl) : ∃ fd, Fun K d.name d.qual d.st (d.at_ K) fd := by
  have c2 := (He.ba (show ((fz.all fun f => f.ok K) && (fn.all fun d => d.ok K)) = true from congrArg (fun z : AlZ => z.1) c)).2
  have e : fn.map (fun d => fnZ K (d.at_ K)) = fn.map DefZ.val := congrArg (fun z : AlZ => z.2.1) c
  have e2 : (fn.map fun d => fnZ K (d.at_ K))[i]? = (fn.map DefZ.val)[i]? := by rw [e]
  rw [List.getElem?_map, List.getElem?_map, h] at e2
  exact DefZ.fn (Option.some.inj e2) (List.all_eq_true.mp c2 d (List.mem_of_getElem? h))
theorem SaysZ.tab (c : SaysZ fz fn ts w K) (i : Nat) {t : He.Tab} (h : ts[i]? = some t := by rfl) : ∃ es n, KDict K w (t.1 K) es n := by
  have e : ts.map (fun t => He.dicW K (t.1 K)) = ts.map fun t => some (He.keysIn w.params t.2) := congrArg (fun z : AlZ => z.2.2) c
  have e2 : (ts.map fun t => He.dicW K (t.1 K))[i]? = (ts.map fun t => some (He.keysIn w.params t.2))[i]? := by rw [e]
  rw [List.getElem?_map, List.getElem?_map, h] at e2
  exact He.dicW_ok (Option.some.inj e2)
end
/-- a def for calls -/
theorem top_z {K : PySem.W.Frag} {mg : Str → Option Value} {x qual : Str} {st : Stmt} {ps : List Str} (m : mg x = some (.ref (He.ga K x))) (F : ∃ fd, Fun K x qual st (He.ga K x) fd)
    (b : ∀ (kV doc pm : Value) (an : Option Addr) (cdv ct : Value) (us : List Value), us.length = ps.length → bindArgs (PySem.W.fnOf x qual (defArgs st) (defBody st) (defScope st) .none kV doc pm an cdv ct) ⟨us, []⟩ = pure (ps.zip us)) : TopF K mg x qual st ps :=
  let ⟨fd, F⟩ := F
  ⟨_, fd, F, m, F.binds b⟩
/-- the law's end where the part is found by the Hook -/
theorem walk_ofZ {l : PySem.W.OpenLaw} {n k : Nat} {q : Program} {loose : List Str} {XP : (Str → Option Value) → Heap → Prop} {YP : World → Heap → Prop} {d : DefRec} {sp : PySem.W.Frag → Sp} {x : Str}
    (hn : l.most = some n) (hn2 : n ≤ sizeLine) (hdf : d.params.defaults = []) (hr : RoomG k callerA)
    (F : ∀ (w : World) (mg : Str → Option Value) (fa : Addr) (h : Heap), YP w h → h.Ns mainGlobals mg → mg d.name = some (.ref fa) →
      ∃ K : PySem.W.Frag, K.In h ∧ ∃ fd : FuncData, (∀ (s : Shared) (u : Value), BindsTo s fd ⟨[u], []⟩ [(x, u)]) ∧ ∀ base : Heap, K.In base → base.Ns mainGlobals mg → FnG l.prog w K mg base k fa fd [x] (sp K))
    (hsp : ∀ (K : PySem.W.Frag) (H : Hp) (a : Addr) (ns : List Int), ns.length ≤ n → Only H → SqL K H a (ns.map V.int) → sp K [.ref a] H (fun v _ => v = .bl true) fun _ _ _ => False) :
    PySem.W.WalkO q loose XP YP l.row.toRowW d [] (fun f vs => PySem.call f vs) := Att.attach_call hn hdf fun w s₀ s₁ mg mb fa o pm cd doc a vs ns G Y ho hd hcd hmg hobj hints hlen hg =>
  let ⟨_, hK, fd, hb, hF⟩ := F w mg fa _ Y G.T.g hmg
  law_callG hK G.T.g G.T.b G.T.builtins G.T.nolimit hg hobj hints (Nat.le_trans hlen hn2) hr hF hb fun H only sq => hsp _ H a ns hlen only sq
end DL
namespace DL
open PySem PySem.Spec PyProof.Rows L2
def ck_SIGNS : List (Str × Str) := [(Str.ofString "star", Str.ofString "*"), (Str.ofString "plus", Str.ofString "+"), (Str.ofString "maybe", Str.ofString "?")]
theorem okk_SIGNS : ∀ p ∈ ck_SIGNS, okS p.2 := (okq_cons ⟨by decide, by decide +kernel⟩ (okq_cons ⟨by decide, by decide +kernel⟩ (okq_cons ⟨by decide, by decide +kernel⟩ okq_nil)))
def ck_NAME_LINES : List Str := [Str.ofString "asker", Str.ofString "group", Str.ofString "thing", Str.ofString "badge", Str.ofString "flag", Str.ofString "asked", Str.ofString "action", Str.ofString "duty"]
theorem okk_NAME_LINES : ∀ z ∈ ck_NAME_LINES, okS z := (oks_cons ⟨by decide, by decide +kernel⟩ (oks_cons ⟨by decide, by decide +kernel⟩ (oks_cons ⟨by decide, by decide +kernel⟩ (oks_cons ⟨by decide, by decide +kernel⟩ (oks_cons ⟨by decide, by decide +kernel⟩ (oks_cons ⟨by decide, by decide +kernel⟩ (oks_cons ⟨by decide, by decide +kernel⟩ (oks_cons ⟨by decide, by decide +kernel⟩ oks_nil))))))))
/-! test_tokens: 0 tests, 1 found, 2 tag, 3 truth -/
def rd_test_tokens_b1 : S1 :=
  (dDrop (dBM okL extendD (dVar 1) (dCons (dIf (dTru (dVar 3)) (dLst (dCons (dVar 2) dNil)) (dLst (dCons (dC (.str (Str.ofString "-"))) (dCons (dVar 2) dNil)))) dNil)))
def rd_test_tokens_2 : S1 :=
  (dRet (dOp addD (dVar 1) (dLst (dCons (dC (.str (Str.ofString "]"))) dNil))))
def rd_test_tokens_1 : S1 :=
  dSeq (dFor (iSeq (dVar 0)) (gTp 2 (gCn (gN 2) (gCn (gN 3) gNl))) rd_test_tokens_b1) rd_test_tokens_2
def rd_test_tokens : S1 :=
  dSeq (dAsg (dLst (dCons (dC (.str (Str.ofString "["))) dNil)) (gN 1)) rd_test_tokens_1
/-! enclosed: 0 tokens, 1 level, 2 needed -/
def rd_enclosed : S1 :=
  (dRet (dIf (dTest (dOp geD (dVar 1) (dVar 2))) (dVar 0) (dOp addD (dOp addD (dLst (dCons (dC (.str (Str.ofString "("))) dNil)) (dVar 0)) (dLst (dCons (dC (.str (Str.ofString ")"))) dNil)))))
/-! table_tokens: 0 walk, 1 found, 2 place, 3 move, 4 letter -/
def rd_table_tokens_b1_2 : S1 :=
  (dDrop (dBM okL extendD (dVar 1) (dCons (dOp addD (dOp addD (dLst (dCons (dCall (on1 strD) (dCons (dOp ixD (dVar 3) (dC (.int 0))) dNil)) (dCons (dOp ixD (dVar 4) (dC (.int 0))) (dCons (dOp ixD (dVar 4) (dC (.int 1))) (dCons (dC (.str (Str.ofString "["))) dNil))))) (dCall (on1 listD) (dCons (dOp ixD (dVar 4) (dC (.int 2))) dNil))) (dLst (dCons (dC (.str (Str.ofString "]"))) (dCons (dCall (on1 strD) (dCons (dOp ixD (dVar 3) (dC (.int 2))) dNil)) dNil)))) dNil)))
def rd_table_tokens_b1_1 : S1 :=
  dSeq (dAsg (dOp ixD (dVar 3) (dC (.int 1))) (gN 4)) rd_table_tokens_b1_2
def rd_table_tokens_b1 : S1 :=
  dSeq (dIfS (dTest (dOp gtD (dVar 2) (dC (.int 0)))) (dDrop (dBM okL appendD (dVar 1) (dCons (dC (.str (Str.ofString "|"))) dNil))) dNext) rd_table_tokens_b1_1
def rd_table_tokens_2 : S1 :=
  (dRet (dOp addD (dVar 1) (dLst (dCons (dC (.str (Str.ofString "final"))) (dCons (dIf (dTest (dOp isD (dOp ixD (dVar 0) (dC (.int 2))) (dC .none))) (dC (.str (Str.ofString "-"))) (dCall (on1 strD) (dCons (dOp ixD (dVar 0) (dC (.int 2))) dNil))) dNil)))))
def rd_table_tokens_1 : S1 :=
  dSeq (dFor (iEn (dCons (dOp ixD (dVar 0) (dC (.int 1))) dNil)) (gTp 2 (gCn (gN 2) (gCn (gN 3) gNl))) rd_table_tokens_b1) rd_table_tokens_2
def rd_table_tokens : S1 :=
  dSeq (dAsg (dLst (dCons (dC (.str (Str.ofString "table"))) dNil)) (gN 1)) rd_table_tokens_1
/-! term_tokens: 0 term, 1 front, 2 name -/
def rd_term_tokens_2 : S1 :=
  (dRet (dLst (dCons (dVar 1) (dCons (dC (.str (Str.ofString "."))) (dCons (dVar 2) dNil)))))
def rd_term_tokens_1 : S1 :=
  dSeq (dAsg (dSplit (dVar 0) (dC (.str (Str.ofString ".")))) (gLs 2 (gCn (gN 1) (gCn (gN 2) gNl)))) rd_term_tokens_2
def rd_term_tokens : S1 :=
  dSeq (dIfS (dTest (dOp ninD (dC (.str (Str.ofString "."))) (dVar 0))) (dRet (dLst (dCons (dVar 0) dNil))) dNext) rd_term_tokens_1
/-! act_tokens: 0 acts, 1 found, 2 act -/
def rd_act_tokens_b1 : S1 :=
  (dDrop (dBM okL extendD (dVar 1) (dCons (dIf (dTest (dOp eqD (dOp ixD (dVar 2) (dC (.int 0))) (dC (.str (Str.ofString "\x40"))))) (dLst (dCons (dC (.str (Str.ofString "\x40"))) (dCons (dSl (dVar 2) (dPart (dC (.int 1))) dNoPart) dNil))) (dLst (dCons (dVar 2) dNil))) dNil)))
def rd_act_tokens_2 : S1 :=
  (dRet (dVar 1))
def rd_act_tokens_1 : S1 :=
  dSeq (dFor (iSeq (dVar 0)) (gN 2) rd_act_tokens_b1) rd_act_tokens_2
def rd_act_tokens : S1 :=
  dSeq (dAsg (dLst dNil) (gN 1)) rd_act_tokens_1
/-! _law_begin: 0 _law_script, 1 _law_cell -/
def rd__law_begin : S1 :=
  (dRet (dLst (dCons (dLc (iSeq (dVar 0)) (gN 1) dYes (dCall (on1 intD) (dCons (dVar 1) dNil)) [1]) (dCons (dC (.int 0)) (dCons (dC (.int 0)) (dCons (dC (.int 7)) (dCons (dC (.int 3)) dNil)))))))
/-! _law_draw: 0 _law_d, 1 _law_many, 2 _law_found, 3 _law_size, 4 _law_cell -/
def rd__law_draw_6 : S1 :=
  (dRet (dOp modD (dCall (on1 intD) (dCons (dOp fdivD (dOp ixD (dVar 0) (dC (.int 3))) (dC (.int 16))) dNil)) (dVar 1)))
def rd__law_draw_5 : S1 :=
  dSeq (dAsg (dOp modD (dCall (on1 intD) (dCons (dOp addD (dOp addD (dOp addD (dOp mulD (dOp ixD (dVar 0) (dC (.int 3))) (dC (.int 48271))) (dOp mulD (dOp modD (dCall (on1 intD) (dCons (dVar 3) dNil)) (dC (.int 2147483629))) (dC (.int 16807)))) (dOp mulD (dOp ixD (dVar 0) (dC (.int 1))) (dC (.int 69621)))) (dC (.int 11))) dNil)) (dC (.int 2147483647))) (gSb (dVar 0) (dC (.int 3)) setD)) rd__law_draw_6
def rd__law_draw_4 : S1 :=
  dSeq (dIfS (dTest (dOp geD (dVar 3) (dOp mulD (dC (.int 2)) (dOp powD (dC (.int 10)) (dC (.int 18)))))) (dSeq (dAsg (dOp modD (dCall (on1 intD) (dCons (dOp fdivD (dVar 3) (dC (.int 2))) dNil)) (dOp shlD (dC (.int 1)) (dC (.int 6000)))) (gN 2))
  (dSeq (dAsg (dOp fdivD (dVar 2) (dVar 1)) (gSb (dVar 0) (dC (.int 2)) setD))
  (dRet (dOp modD (dCall (on1 intD) (dCons (dVar 2) dNil)) (dVar 1))))) dNext) rd__law_draw_5
def rd__law_draw_3 : S1 :=
  dSeq (dAugS (dVar 0) (dC (.int 1)) (dC (.int 1)) iaddD) rd__law_draw_4
def rd__law_draw_2 : S1 :=
  dSeq (dIfS (dTest (dOp ltD (dOp ixD (dVar 0) (dC (.int 1))) (dCall (on1 lenD) (dCons (dOp ixD (dVar 0) (dC (.int 0))) dNil)))) (dSeq (dAsg (dOp ixD (dOp ixD (dVar 0) (dC (.int 0))) (dOp ixD (dVar 0) (dC (.int 1)))) (gN 4))
  (dAsg (dOp addD (dOp mulD (dC (.int 2)) (dCall (on1 absD) (dCons (dVar 4) dNil))) (dCall (on1 intD) (dCons (dOp ltD (dVar 4) (dC (.int 0))) dNil))) (gN 3))) dNext) rd__law_draw_3
def rd__law_draw_1 : S1 :=
  dSeq (dAsg (dC (.int 0)) (gN 3)) rd__law_draw_2
def rd__law_draw : S1 :=
  dSeq (dIfS (dTest (dOp gtD (dOp ixD (dVar 0) (dC (.int 2))) (dC (.int 0)))) (dSeq (dAsg (dOp ixD (dVar 0) (dC (.int 2))) (gN 2))
  (dSeq (dAsg (dOp fdivD (dVar 2) (dVar 1)) (gSb (dVar 0) (dC (.int 2)) setD))
  (dRet (dOp modD (dCall (on1 intD) (dCons (dVar 2) dNil)) (dVar 1))))) dNext) rd__law_draw_1
/-! _law_is_int: 0 _law_thing -/
def rd__law_is_int : S1 :=
  (dRet (dAndV (dCall (on2 isiD) (dCons (dVar 0) (dCons (dC (.ty "int")) dNil))) (dNotV (dCall (on2 isiD) (dCons (dVar 0) (dCons (dC (.ty "bool")) dNil))))))
/-! _law_reserved: 0 _law_text -/
def rd__law_reserved_1 : S1 :=
  (dRet (dSplit (dOp addD (dVar 0) (dC (.str (Str.ofString "by is may rank due and or not always now ask any table final node rule")))) (dC (.str (Str.ofString " ")))))
def rd__law_reserved : S1 :=
  dSeq (dAsg (dC (.str (Str.ofString "asker group thing badge tag number flag asked action duty tie never walk when role gate let bar on from to "))) (gN 0)) rd__law_reserved_1
/-! _law_see: 0 _law_c -/
def rd__law_see : S1 :=
  (dRet (dIf (dTest (dOp ltD (dOp ixD (dVar 0) (dC (.int 1))) (dCall (on1 lenD) (dCons (dOp ixD (dVar 0) (dC (.int 0))) dNil)))) (dOp ixD (dOp ixD (dVar 0) (dC (.int 0))) (dOp ixD (dVar 0) (dC (.int 1)))) (dC (.str (Str.ofString "")))))
/-! _law_fold: 0 _law_values, 1 _law_waits, 2 _law_words, 3 _law_k, 4 _law_second, 5 _law_first -/
def rd__law_fold_b1_3 : S1 :=
  (dDrop (dBM okL appendD (dVar 0) (dCons (dTup (dCons (dBM0 okL popD (dVar 1)) (dCons (dVar 5) (dCons (dVar 4) dNil)))) dNil)))
def rd__law_fold_b1_2 : S1 :=
  dSeq (dAsg (dBM0 okL popD (dVar 0)) (gN 5)) rd__law_fold_b1_3
def rd__law_fold_b1_1 : S1 :=
  dSeq (dAsg (dBM0 okL popD (dVar 0)) (gN 4)) rd__law_fold_b1_2
def rd__law_fold_b1 : S1 :=
  dSeq (dIfS (dOrT (dTest (dOp eqD (dCall (on1 lenD) (dCons (dVar 1) dNil)) (dC (.int 0)))) (dTest (dOp ninD (dOp ixD (dVar 1) (dUn negD (dC (.int 1)))) (dVar 2)))) dRetN dNext) rd__law_fold_b1_1
def rd__law_fold : S1 :=
  (dFor (iRg1 (dCons (dCall (on1 lenD) (dCons (dVar 1) dNil)) dNil)) (gN 3) rd__law_fold_b1)
/-! _law_partner: 0 _law_words, 1 _law_start, 2 _law_deep, 3 _law_k -/
def rd__law_partner_b1_1 : S1 :=
  (dIfS (dTest (dOp eqD (dVar 2) (dC (.int 0)))) (dRet (dVar 3)) dNext)
def rd__law_partner_b1 : S1 :=
  dSeq (dAsg (dOp subD (dOp addD (dVar 2) (dCall (on1 intD) (dCons (dOp eqD (dOp ixD (dVar 0) (dVar 3)) (dC (.str (Str.ofString "(")))) dNil))) (dCall (on1 intD) (dCons (dOp eqD (dOp ixD (dVar 0) (dVar 3)) (dC (.str (Str.ofString ")")))) dNil))) (gN 2)) rd__law_partner_b1_1
def rd__law_partner_2 : S1 :=
  (dRet (dVar 1))
def rd__law_partner_1 : S1 :=
  dSeq (dFor (iRg2 (dCons (dVar 1) (dCons (dCall (on1 lenD) (dCons (dVar 0) dNil)) dNil))) (gN 3) rd__law_partner_b1) rd__law_partner_2
def rd__law_partner : S1 :=
  dSeq (dAsg (dC (.int 0)) (gN 2)) rd__law_partner_1
/-! atom_tokens: 0 cond, 1 word, 2 gap, 3 rest -/
def rd_atom_tokens_8 (sp_term_tokens : P1) : S1 :=
  (dRet (dOp addD (dOp addD (dOp addD (dCall sp_term_tokens (dCons (dOp ixD (dVar 0) (dC (.int 1))) dNil)) (dLst (dCons (dC (.str (Str.ofString "<="))) dNil))) (dCall sp_term_tokens (dCons (dOp ixD (dVar 0) (dC (.int 2))) dNil))) (dVar 3)))
def rd_atom_tokens_7 (sp_term_tokens : P1) : S1 :=
  dSeq (dAsg (dIf (dTest (dOp eqD (dVar 2) (dC (.int 0)))) (dLst dNil) (dLst (dCons (dIf (dTest (dOp gtD (dVar 2) (dC (.int 0)))) (dC (.str (Str.ofString "+"))) (dC (.str (Str.ofString "-")))) (dCons (dCall (on1 strD) (dCons (dCall (on1 absD) (dCons (dVar 2) dNil)) dNil)) dNil)))) (gN 3)) (rd_atom_tokens_8 sp_term_tokens)
def rd_atom_tokens_6 (sp_term_tokens : P1) : S1 :=
  dSeq (dAsg (dOp ixD (dVar 0) (dC (.int 3))) (gN 2)) (rd_atom_tokens_7 sp_term_tokens)
def rd_atom_tokens_5 (sp_term_tokens : P1) : S1 :=
  dSeq (dIfS (dTest (dOp eqD (dVar 1) (dC (.str (Str.ofString "walk"))))) (dRet (dLst (dCons (dC (.str (Str.ofString "by"))) (dCons (dOp ixD (dVar 0) (dC (.int 1))) (dCons (dC (.str (Str.ofString "to"))) (dCons (dOp ixD (dVar 0) (dC (.int 2))) dNil)))))) dNext) (rd_atom_tokens_6 sp_term_tokens)
def rd_atom_tokens_4 (sp_term_tokens : P1) : S1 :=
  dSeq (dIfS (dTest (dOp eqD (dVar 1) (dC (.str (Str.ofString "tag"))))) (dRet (dLst (dCons (dOp ixD (dVar 0) (dC (.int 1))) (dCons (dC (.str (Str.ofString "is"))) (dCons (dOp ixD (dVar 0) (dC (.int 2))) dNil))))) dNext) (rd_atom_tokens_5 sp_term_tokens)
def rd_atom_tokens_3 (sp_term_tokens : P1) : S1 :=
  dSeq (dIfS (dTest (dOp eqD (dVar 1) (dC (.str (Str.ofString "flag"))))) (dRet (dLst (dCons (dC (.str (Str.ofString "ask"))) (dCons (dC (.str (Str.ofString "is"))) (dCons (dOp ixD (dVar 0) (dC (.int 1))) dNil))))) dNext) (rd_atom_tokens_4 sp_term_tokens)
def rd_atom_tokens_2 (sp_term_tokens : P1) : S1 :=
  dSeq (dIfS (dTest (dOp eqD (dVar 1) (dC (.str (Str.ofString "named"))))) (dRet (dLst (dCons (dC (.str (Str.ofString "\x40"))) (dCons (dOp ixD (dVar 0) (dC (.int 1))) dNil)))) dNext) (rd_atom_tokens_3 sp_term_tokens)
def rd_atom_tokens_1 (sp_term_tokens : P1) : S1 :=
  dSeq (dIfS (dTest (dOp eqD (dVar 1) (dC (.str (Str.ofString "always"))))) (dRet (dLst (dCons (dC (.str (Str.ofString "always"))) dNil))) dNext) (rd_atom_tokens_2 sp_term_tokens)
def rd_atom_tokens (sp_term_tokens : P1) : S1 :=
  dSeq (dAsg (dOp ixD (dVar 0) (dC (.int 0))) (gN 1)) (rd_atom_tokens_1 sp_term_tokens)
/-! _law_pick: 0 _law_d, 1 _law_row -/
def rd__law_pick (sp__law_draw : P1) : S1 :=
  (dRet (dOp ixD (dVar 1) (dCall sp__law_draw (dCons (dVar 0) (dCons (dCall (on1 lenD) (dCons (dVar 1) dNil)) dNil)))))
/-! _law_gap: 0 _law_d, 1 _law_way -/
def rd__law_gap_4 (sp__law_draw : P1) : S1 :=
  (dRet (dOp subD (dCall sp__law_draw (dCons (dVar 0) (dCons (dC (.int 200)) dNil))) (dC (.int 100))))
def rd__law_gap_3 (sp__law_draw : P1) : S1 :=
  dSeq (dIfS (dTest (dOp eqD (dVar 1) (dC (.int 6)))) (dRet (dOp subD (dCall sp__law_draw (dCons (dVar 0) (dCons (dC (.int 3)) dNil))) (dC (.int 9999)))) dNext) (rd__law_gap_4 sp__law_draw)
def rd__law_gap_2 (sp__law_draw : P1) : S1 :=
  dSeq (dIfS (dTest (dOp eqD (dVar 1) (dC (.int 5)))) (dRet (dOp subD (dC (.int 9999)) (dCall sp__law_draw (dCons (dVar 0) (dCons (dC (.int 3)) dNil))))) dNext) (rd__law_gap_3 sp__law_draw)
def rd__law_gap_1 (sp__law_draw : P1) : S1 :=
  dSeq (dIfS (dTest (dOp ltD (dVar 1) (dC (.int 5)))) (dRet (dOp subD (dCall sp__law_draw (dCons (dVar 0) (dCons (dC (.int 7)) dNil))) (dC (.int 3)))) dNext) (rd__law_gap_2 sp__law_draw)
def rd__law_gap (sp__law_draw : P1) : S1 :=
  dSeq (dAsg (dCall sp__law_draw (dCons (dVar 0) (dCons (dC (.int 8)) dNil))) (gN 1)) (rd__law_gap_1 sp__law_draw)
/-! _law_good_name: 0 _law_thing, 1 _law_sign -/
def rd__law_good_name_2 (sp__law_reserved : P1) : S1 :=
  (dRet (dCall (on1 allD) (dCons (dLc (iSeq (dVar 0)) (gN 1) dYes (dOp inD (dVar 1) (dC (.str (Str.ofString "abcdefghijklmnopqrstuvwxyz0123456789")))) [1]) dNil)))
def rd__law_good_name_1 (sp__law_reserved : P1) : S1 :=
  dSeq (dIfS (dTest (dOp ninD (dOp ixD (dVar 0) (dC (.int 0))) (dC (.str (Str.ofString "abcdefghijklmnopqrstuvwxyz"))))) (dRet (dC (.bool false))) dNext) (rd__law_good_name_2 sp__law_reserved)
def rd__law_good_name (sp__law_reserved : P1) : S1 :=
  dSeq (dIfS (dOrT (dNotT (dTru (dCall (on2 isiD) (dCons (dVar 0) (dCons (dC (.ty "str")) dNil))))) (dOrT (dNotT (dTest (dChain leD leD (dC (.int 1)) (dCall (on1 lenD) (dCons (dVar 0) dNil)) (dC (.int 8))))) (dOrT (dTest (dOp eqD (dSl (dVar 0) dNoPart (dPart (dC (.int 2)))) (dC (.str (Str.ofString "zz"))))) (dTest (dOp inD (dVar 0) (dCall sp__law_reserved dNil)))))) (dRet (dC (.bool false))) dNext) (rd__law_good_name_1 sp__law_reserved)
/-! _law_take: 0 _law_c, 1 _law_word_here -/
def rd__law_take (sp__law_see : P1) : S1 :=
  (dIfS (dAndT (dNotT (dTru (dOp ixD (dVar 0) (dC (.int 2))))) (dTest (dOp eqD (dCall sp__law_see (dCons (dVar 0) dNil)) (dVar 1)))) (dAsg (dOp addD (dOp ixD (dVar 0) (dC (.int 1))) (dC (.int 1))) (gSb (dVar 0) (dC (.int 1)) setD)) (dAsg (dC (.bool true)) (gSb (dVar 0) (dC (.int 2)) setD)))
/-! _law_take_number: 0 _law_c, 1 _law_low, 2 _law_high, 3 _law_word_here, 4 _law_good, 5 _law_sign -/
def rd__law_take_number_4 (sp__law_see : P1) : S1 :=
  (dRet (dCall (on1 intSD) (dCons (dVar 3) dNil)))
def rd__law_take_number_3 (sp__law_see : P1) : S1 :=
  dSeq (dAsg (dOp addD (dOp ixD (dVar 0) (dC (.int 1))) (dC (.int 1))) (gSb (dVar 0) (dC (.int 1)) setD)) (rd__law_take_number_4 sp__law_see)
def rd__law_take_number_2 (sp__law_see : P1) : S1 :=
  dSeq (dIfS (dOrT (dTru (dOp ixD (dVar 0) (dC (.int 2)))) (dOrT (dNotT (dTru (dVar 4))) (dNotT (dTest (dChain leD leD (dVar 1) (dCall (on1 intSD) (dCons (dVar 3) dNil)) (dVar 2)))))) (dSeq (dAsg (dC (.bool true)) (gSb (dVar 0) (dC (.int 2)) setD))
  (dRet (dC (.int 0)))) dNext) (rd__law_take_number_3 sp__law_see)
def rd__law_take_number_1 (sp__law_see : P1) : S1 :=
  dSeq (dAsg (dAndV (dChain leD leD (dC (.int 1)) (dCall (on1 lenD) (dCons (dVar 3) dNil)) (dC (.int 4))) (dAndV (dCall (on1 allD) (dCons (dLc (iSeq (dVar 3)) (gN 5) dYes (dOp inD (dVar 5) (dC (.str (Str.ofString "0123456789")))) [5]) dNil)) (dOrV (dOp eqD (dVar 3) (dC (.str (Str.ofString "0")))) (dOp neD (dOp ixD (dVar 3) (dC (.int 0))) (dC (.str (Str.ofString "0"))))))) (gN 4)) (rd__law_take_number_2 sp__law_see)
def rd__law_take_number (sp__law_see : P1) : S1 :=
  dSeq (dAsg (dCall sp__law_see (dCons (dVar 0) dNil)) (gN 3)) (rd__law_take_number_1 sp__law_see)
/-! walk_tokens: 0 walk, 1 needed, 2 word -/
def rd_walk_tokens_6 (sp_enclosed : P1) (sp_walk_tokens : P1) (sp_test_tokens : P1) : S1 :=
  (dRet (dOp addD (dLst (dCons (dOp ixD (dVar 0) (dC (.int 1))) dNil)) (dIf (dTru (dOp ixD (dVar 0) (dC (.int 2)))) (dCall sp_test_tokens (dCons (dOp ixD (dVar 0) (dC (.int 2))) dNil)) (dLst dNil))))
def rd_walk_tokens_5 (sp_enclosed : P1) (sp_walk_tokens : P1) (sp_test_tokens : P1) : S1 :=
  dSeq (dIfS (dTest (dOp eqD (dVar 2) (dC (.str (Str.ofString "named"))))) (dRet (dLst (dCons (dC (.str (Str.ofString "\x40"))) (dCons (dOp ixD (dVar 0) (dC (.int 1))) dNil)))) dNext) (rd_walk_tokens_6 sp_enclosed sp_walk_tokens sp_test_tokens)
def rd_walk_tokens_4 (sp_enclosed : P1) (sp_walk_tokens : P1) (sp_test_tokens : P1) : S1 :=
  dSeq (dIfS (dTest (dUn (inSD ck_SIGNS) (dVar 2))) (dRet (dOp addD (dCall sp_walk_tokens (dCons (dOp ixD (dVar 0) (dC (.int 1))) (dCons (dC (.int 2)) dNil))) (dLst (dCons (dUn (ixSD ck_SIGNS) (dVar 2)) dNil)))) dNext) (rd_walk_tokens_5 sp_enclosed sp_walk_tokens sp_test_tokens)
def rd_walk_tokens_3 (sp_enclosed : P1) (sp_walk_tokens : P1) (sp_test_tokens : P1) : S1 :=
  dSeq (dIfS (dTest (dOp eqD (dVar 2) (dC (.str (Str.ofString "upto"))))) (dRet (dOp addD (dCall sp_walk_tokens (dCons (dOp ixD (dVar 0) (dC (.int 1))) (dCons (dC (.int 2)) dNil))) (dLst (dCons (dC (.str (Str.ofString "{"))) (dCons (dCall (on1 strD) (dCons (dOp ixD (dVar 0) (dC (.int 2))) dNil)) (dCons (dC (.str (Str.ofString "}"))) dNil)))))) dNext) (rd_walk_tokens_4 sp_enclosed sp_walk_tokens sp_test_tokens)
def rd_walk_tokens_2 (sp_enclosed : P1) (sp_walk_tokens : P1) (sp_test_tokens : P1) : S1 :=
  dSeq (dIfS (dTest (dOp eqD (dVar 2) (dC (.str (Str.ofString "then"))))) (dRet (dCall sp_enclosed (dCons (dOp addD (dCall sp_walk_tokens (dCons (dOp ixD (dVar 0) (dC (.int 1))) (dCons (dC (.int 1)) dNil))) (dCall sp_walk_tokens (dCons (dOp ixD (dVar 0) (dC (.int 2))) (dCons (dC (.int 2)) dNil)))) (dCons (dC (.int 1)) (dCons (dVar 1) dNil))))) dNext) (rd_walk_tokens_3 sp_enclosed sp_walk_tokens sp_test_tokens)
def rd_walk_tokens_1 (sp_enclosed : P1) (sp_walk_tokens : P1) (sp_test_tokens : P1) : S1 :=
  dSeq (dIfS (dTest (dOp eqD (dVar 2) (dC (.str (Str.ofString "or"))))) (dRet (dCall sp_enclosed (dCons (dOp addD (dOp addD (dCall sp_walk_tokens (dCons (dOp ixD (dVar 0) (dC (.int 1))) (dCons (dC (.int 0)) dNil))) (dLst (dCons (dC (.str (Str.ofString "|"))) dNil))) (dCall sp_walk_tokens (dCons (dOp ixD (dVar 0) (dC (.int 2))) (dCons (dC (.int 1)) dNil)))) (dCons (dC (.int 0)) (dCons (dVar 1) dNil))))) dNext) (rd_walk_tokens_2 sp_enclosed sp_walk_tokens sp_test_tokens)
def rd_walk_tokens (sp_enclosed : P1) (sp_walk_tokens : P1) (sp_test_tokens : P1) : S1 :=
  dSeq (dAsg (dOp ixD (dVar 0) (dC (.int 0))) (gN 2)) (rd_walk_tokens_1 sp_enclosed sp_walk_tokens sp_test_tokens)
/-! _law_word: 0 _law_d, 1 _law_way, 2 _law_words, 3 _law_word_here, 4 _law_signs, 5 _law_k -/
def rd__law_word_b1 (sp__law_draw : P1) (sp__law_pick : P1) (sp__law_reserved : P1) : S1 :=
  (dAsg (dOp addD (dVar 3) (dOp ixD (dVar 4) (dCall sp__law_draw (dCons (dVar 0) (dCons (dC (.int 36)) dNil))))) (gN 3))
def rd__law_word_7 (sp__law_draw : P1) (sp__law_pick : P1) (sp__law_reserved : P1) : S1 :=
  (dRet (dIf (dTest (dOp inD (dVar 3) (dCall sp__law_reserved dNil))) (dOp addD (dVar 3) (dC (.str (Str.ofString "0")))) (dVar 3)))
def rd__law_word_6 (sp__law_draw : P1) (sp__law_pick : P1) (sp__law_reserved : P1) : S1 :=
  dSeq (dIfS (dTest (dOp eqD (dSl (dVar 3) dNoPart (dPart (dC (.int 2)))) (dC (.str (Str.ofString "zz"))))) (dAsg (dOp addD (dC (.str (Str.ofString "y"))) (dSl (dVar 3) (dPart (dC (.int 1))) dNoPart)) (gN 3)) dNext) (rd__law_word_7 sp__law_draw sp__law_pick sp__law_reserved)
def rd__law_word_5 (sp__law_draw : P1) (sp__law_pick : P1) (sp__law_reserved : P1) : S1 :=
  dSeq (dFor (iRg1 (dCons (dIf (dTest (dOp eqD (dVar 1) (dC (.int 2)))) (dC (.int 7)) (dCall sp__law_draw (dCons (dVar 0) (dCons (dC (.int 3)) dNil)))) dNil)) (gN 5) (rd__law_word_b1 sp__law_draw sp__law_pick sp__law_reserved)) (rd__law_word_6 sp__law_draw sp__law_pick sp__law_reserved)
def rd__law_word_4 (sp__law_draw : P1) (sp__law_pick : P1) (sp__law_reserved : P1) : S1 :=
  dSeq (dAsg (dOp ixD (dVar 4) (dCall sp__law_draw (dCons (dVar 0) (dCons (dC (.int 26)) dNil)))) (gN 3)) (rd__law_word_5 sp__law_draw sp__law_pick sp__law_reserved)
def rd__law_word_3 (sp__law_draw : P1) (sp__law_pick : P1) (sp__law_reserved : P1) : S1 :=
  dSeq (dAsg (dC (.str (Str.ofString "abcdefghijklmnopqrstuvwxyz0123456789"))) (gN 4)) (rd__law_word_4 sp__law_draw sp__law_pick sp__law_reserved)
def rd__law_word_2 (sp__law_draw : P1) (sp__law_pick : P1) (sp__law_reserved : P1) : S1 :=
  dSeq (dIfS (dTest (dOp eqD (dVar 1) (dC (.int 1)))) (dSeq (dAsg (dCall sp__law_pick (dCons (dVar 0) (dCons (dCall sp__law_reserved dNil) dNil))) (gN 3))
  (dRet (dCall sp__law_pick (dCons (dVar 0) (dCons (dLst (dCons (dSl (dVar 3) dNoPart (dPart (dUn negD (dC (.int 1))))) (dCons (dOp addD (dC (.str (Str.ofString "z"))) (dVar 3)) (dCons (dOp addD (dVar 3) (dC (.str (Str.ofString "s")))) (dCons (dOp addD (dVar 3) (dC (.str (Str.ofString "7")))) dNil))))) dNil))))) dNext) (rd__law_word_3 sp__law_draw sp__law_pick sp__law_reserved)
def rd__law_word_1 (sp__law_draw : P1) (sp__law_pick : P1) (sp__law_reserved : P1) : S1 :=
  dSeq (dIfS (dTest (dOp eqD (dVar 1) (dC (.int 0)))) (dSeq (dAsg (dC (.str (Str.ofString "then star plus maybe upto step named atmost of all none z a b0"))) (gN 2))
  (dRet (dCall sp__law_pick (dCons (dVar 0) (dCons (dSplit (dVar 2) (dC (.str (Str.ofString " ")))) dNil))))) dNext) (rd__law_word_2 sp__law_draw sp__law_pick sp__law_reserved)
def rd__law_word (sp__law_draw : P1) (sp__law_pick : P1) (sp__law_reserved : P1) : S1 :=
  dSeq (dAsg (dCall sp__law_draw (dCons (dVar 0) (dCons (dC (.int 8)) dNil))) (gN 1)) (rd__law_word_1 sp__law_draw sp__law_pick sp__law_reserved)
/-! _law_take_name: 0 _law_c, 1 _law_word_here -/
def rd__law_take_name_3 (sp__law_see : P1) (sp__law_good_name : P1) : S1 :=
  (dRet (dVar 1))
def rd__law_take_name_2 (sp__law_see : P1) (sp__law_good_name : P1) : S1 :=
  dSeq (dAsg (dOp addD (dOp ixD (dVar 0) (dC (.int 1))) (dC (.int 1))) (gSb (dVar 0) (dC (.int 1)) setD)) (rd__law_take_name_3 sp__law_see sp__law_good_name)
def rd__law_take_name_1 (sp__law_see : P1) (sp__law_good_name : P1) : S1 :=
  dSeq (dIfS (dOrT (dTru (dOp ixD (dVar 0) (dC (.int 2)))) (dNotT (dTru (dCall sp__law_good_name (dCons (dVar 1) dNil))))) (dSeq (dAsg (dC (.bool true)) (gSb (dVar 0) (dC (.int 2)) setD))
  (dRet (dC (.str (Str.ofString ""))))) dNext) (rd__law_take_name_2 sp__law_see sp__law_good_name)
def rd__law_take_name (sp__law_see : P1) (sp__law_good_name : P1) : S1 :=
  dSeq (dAsg (dCall sp__law_see (dCons (dVar 0) dNil)) (gN 1)) (rd__law_take_name_1 sp__law_see sp__law_good_name)
/-! any_walk_tokens: 0 walk -/
def rd_any_walk_tokens (sp_table_tokens : P1) (sp_walk_tokens : P1) : S1 :=
  (dRet (dIf (dTest (dOp eqD (dOp ixD (dVar 0) (dC (.int 0))) (dC (.str (Str.ofString "table"))))) (dCall sp_table_tokens (dCons (dVar 0) dNil)) (dCall sp_walk_tokens (dCons (dVar 0) (dCons (dC (.int 0)) dNil)))))
/-! _law_side: 0 _law_d, 1 _law_way -/
def rd__law_side_2 (sp__law_draw : P1) (sp__law_word : P1) : S1 :=
  (dRet (dOp addD (dOp ixD (dLst (dCons (dC (.str (Str.ofString "asker."))) (dCons (dC (.str (Str.ofString "thing."))) (dCons (dC (.str (Str.ofString "ask."))) dNil)))) (dOp subD (dVar 1) (dC (.int 2)))) (dCall sp__law_word (dCons (dVar 0) dNil))))
def rd__law_side_1 (sp__law_draw : P1) (sp__law_word : P1) : S1 :=
  dSeq (dIfS (dTest (dOp ltD (dVar 1) (dC (.int 2)))) (dRet (dOp ixD (dLst (dCons (dC (.str (Str.ofString "now"))) (dCons (dC (.str (Str.ofString "0"))) dNil))) (dVar 1))) dNext) (rd__law_side_2 sp__law_draw sp__law_word)
def rd__law_side (sp__law_draw : P1) (sp__law_word : P1) : S1 :=
  dSeq (dAsg (dCall sp__law_draw (dCons (dVar 0) (dCons (dC (.int 5)) dNil))) (gN 1)) (rd__law_side_1 sp__law_draw sp__law_word)
/-! _law_take_side: 0 _law_c, 1 _law_word_here -/
def rd__law_take_side_4 (sp__law_see : P1) (sp__law_take : P1) (sp__law_take_name : P1) : S1 :=
  (dRet (dC (.str (Str.ofString ""))))
def rd__law_take_side_3 (sp__law_see : P1) (sp__law_take : P1) (sp__law_take_name : P1) : S1 :=
  dSeq (dAsg (dC (.bool true)) (gSb (dVar 0) (dC (.int 2)) setD)) (rd__law_take_side_4 sp__law_see sp__law_take sp__law_take_name)
def rd__law_take_side_2 (sp__law_see : P1) (sp__law_take : P1) (sp__law_take_name : P1) : S1 :=
  dSeq (dIfS (dAndT (dNotT (dTru (dOp ixD (dVar 0) (dC (.int 2))))) (dTest (dOp inD (dVar 1) (dLst (dCons (dC (.str (Str.ofString "asker"))) (dCons (dC (.str (Str.ofString "thing"))) (dCons (dC (.str (Str.ofString "ask"))) dNil))))))) (dSeq (dAsg (dOp addD (dOp ixD (dVar 0) (dC (.int 1))) (dC (.int 1))) (gSb (dVar 0) (dC (.int 1)) setD))
  (dSeq (dDrop (dCall sp__law_take (dCons (dVar 0) (dCons (dC (.str (Str.ofString "."))) dNil))))
  (dRet (dOp addD (dOp addD (dVar 1) (dC (.str (Str.ofString ".")))) (dCall sp__law_take_name (dCons (dVar 0) dNil)))))) dNext) (rd__law_take_side_3 sp__law_see sp__law_take sp__law_take_name)
def rd__law_take_side_1 (sp__law_see : P1) (sp__law_take : P1) (sp__law_take_name : P1) : S1 :=
  dSeq (dIfS (dAndT (dNotT (dTru (dOp ixD (dVar 0) (dC (.int 2))))) (dTest (dOp inD (dVar 1) (dLst (dCons (dC (.str (Str.ofString "now"))) (dCons (dC (.str (Str.ofString "0"))) dNil)))))) (dSeq (dAsg (dOp addD (dOp ixD (dVar 0) (dC (.int 1))) (dC (.int 1))) (gSb (dVar 0) (dC (.int 1)) setD))
  (dRet (dVar 1))) dNext) (rd__law_take_side_2 sp__law_see sp__law_take sp__law_take_name)
def rd__law_take_side (sp__law_see : P1) (sp__law_take : P1) (sp__law_take_name : P1) : S1 :=
  dSeq (dAsg (dCall sp__law_see (dCons (dVar 0) dNil)) (gN 1)) (rd__law_take_side_1 sp__law_see sp__law_take sp__law_take_name)
/-! _law_fact: 0 _law_d, 1 _law_way -/
def rd__law_fact_5 (sp__law_draw : P1) (sp__law_word : P1) (sp__law_gap : P1) (sp__law_side : P1) : S1 :=
  (dRet (dTup (dCons (dC (.str (Str.ofString "atmost"))) (dCons (dCall sp__law_side (dCons (dVar 0) dNil)) (dCons (dCall sp__law_side (dCons (dVar 0) dNil)) (dCons (dCall sp__law_gap (dCons (dVar 0) dNil)) dNil))))))
def rd__law_fact_4 (sp__law_draw : P1) (sp__law_word : P1) (sp__law_gap : P1) (sp__law_side : P1) : S1 :=
  dSeq (dIfS (dTest (dOp ltD (dVar 1) (dC (.int 6)))) (dRet (dTup (dCons (dC (.str (Str.ofString "walk"))) (dCons (dCall sp__law_word (dCons (dVar 0) dNil)) (dCons (dIf (dTest (dOp eqD (dVar 1) (dC (.int 4)))) (dC (.str (Str.ofString "thing"))) (dCall sp__law_word (dCons (dVar 0) dNil))) dNil))))) dNext) (rd__law_fact_5 sp__law_draw sp__law_word sp__law_gap sp__law_side)
def rd__law_fact_3 (sp__law_draw : P1) (sp__law_word : P1) (sp__law_gap : P1) (sp__law_side : P1) : S1 :=
  dSeq (dIfS (dTest (dOp eqD (dVar 1) (dC (.int 3)))) (dRet (dTup (dCons (dC (.str (Str.ofString "tag"))) (dCons (dOp ixD (dLst (dCons (dC (.str (Str.ofString "asker"))) (dCons (dC (.str (Str.ofString "thing"))) dNil))) (dCall sp__law_draw (dCons (dVar 0) (dCons (dC (.int 2)) dNil)))) (dCons (dCall sp__law_word (dCons (dVar 0) dNil)) dNil))))) dNext) (rd__law_fact_4 sp__law_draw sp__law_word sp__law_gap sp__law_side)
def rd__law_fact_2 (sp__law_draw : P1) (sp__law_word : P1) (sp__law_gap : P1) (sp__law_side : P1) : S1 :=
  dSeq (dIfS (dTest (dOp ltD (dVar 1) (dC (.int 3)))) (dRet (dTup (dCons (dOp ixD (dLst (dCons (dC (.str (Str.ofString "named"))) (dCons (dC (.str (Str.ofString "flag"))) dNil))) (dOp subD (dVar 1) (dC (.int 1)))) (dCons (dCall sp__law_word (dCons (dVar 0) dNil)) dNil)))) dNext) (rd__law_fact_3 sp__law_draw sp__law_word sp__law_gap sp__law_side)
def rd__law_fact_1 (sp__law_draw : P1) (sp__law_word : P1) (sp__law_gap : P1) (sp__law_side : P1) : S1 :=
  dSeq (dIfS (dTest (dOp eqD (dVar 1) (dC (.int 0)))) (dRet (dTup (dCons (dC (.str (Str.ofString "always"))) dNil))) dNext) (rd__law_fact_2 sp__law_draw sp__law_word sp__law_gap sp__law_side)
def rd__law_fact (sp__law_draw : P1) (sp__law_word : P1) (sp__law_gap : P1) (sp__law_side : P1) : S1 :=
  dSeq (dAsg (dCall sp__law_draw (dCons (dVar 0) (dCons (dC (.int 8)) dNil))) (gN 1)) (rd__law_fact_1 sp__law_draw sp__law_word sp__law_gap sp__law_side)
/-! _law_take_atmost: 0 _law_c, 1 _law_left, 2 _law_right, 3 _law_sign, 4 _law_gap_here -/
def rd__law_take_atmost_8 (sp__law_take_side : P1) (sp__law_take : P1) (sp__law_see : P1) (sp__law_take_number : P1) : S1 :=
  (dRet (dTup (dCons (dC (.str (Str.ofString "atmost"))) (dCons (dVar 1) (dCons (dVar 2) (dCons (dIf (dTest (dOp eqD (dVar 3) (dC (.str (Str.ofString "+"))))) (dVar 4) (dUn negD (dVar 4))) dNil))))))
def rd__law_take_atmost_7 (sp__law_take_side : P1) (sp__law_take : P1) (sp__law_see : P1) (sp__law_take_number : P1) : S1 :=
  dSeq (dIfS (dTest (dOp eqD (dVar 4) (dC (.int 0)))) (dAsg (dOp addD (dOp ixD (dVar 0) (dC (.int 3))) (dC (.int 1))) (gSb (dVar 0) (dC (.int 3)) setD)) dNext) (rd__law_take_atmost_8 sp__law_take_side sp__law_take sp__law_see sp__law_take_number)
def rd__law_take_atmost_6 (sp__law_take_side : P1) (sp__law_take : P1) (sp__law_see : P1) (sp__law_take_number : P1) : S1 :=
  dSeq (dAsg (dCall sp__law_take_number (dCons (dVar 0) (dCons (dC (.int 0)) (dCons (dC (.int 9999)) dNil)))) (gN 4)) (rd__law_take_atmost_7 sp__law_take_side sp__law_take sp__law_see sp__law_take_number)
def rd__law_take_atmost_5 (sp__law_take_side : P1) (sp__law_take : P1) (sp__law_see : P1) (sp__law_take_number : P1) : S1 :=
  dSeq (dAsg (dOp addD (dOp ixD (dVar 0) (dC (.int 1))) (dC (.int 1))) (gSb (dVar 0) (dC (.int 1)) setD)) (rd__law_take_atmost_6 sp__law_take_side sp__law_take sp__law_see sp__law_take_number)
def rd__law_take_atmost_4 (sp__law_take_side : P1) (sp__law_take : P1) (sp__law_see : P1) (sp__law_take_number : P1) : S1 :=
  dSeq (dIfS (dOrT (dTru (dOp ixD (dVar 0) (dC (.int 2)))) (dTest (dOp ninD (dVar 3) (dLst (dCons (dC (.str (Str.ofString "+"))) (dCons (dC (.str (Str.ofString "-"))) dNil)))))) (dRet (dTup (dCons (dC (.str (Str.ofString "atmost"))) (dCons (dVar 1) (dCons (dVar 2) (dCons (dC (.int 0)) dNil)))))) dNext) (rd__law_take_atmost_5 sp__law_take_side sp__law_take sp__law_see sp__law_take_number)
def rd__law_take_atmost_3 (sp__law_take_side : P1) (sp__law_take : P1) (sp__law_see : P1) (sp__law_take_number : P1) : S1 :=
  dSeq (dAsg (dCall sp__law_see (dCons (dVar 0) dNil)) (gN 3)) (rd__law_take_atmost_4 sp__law_take_side sp__law_take sp__law_see sp__law_take_number)
def rd__law_take_atmost_2 (sp__law_take_side : P1) (sp__law_take : P1) (sp__law_see : P1) (sp__law_take_number : P1) : S1 :=
  dSeq (dAsg (dCall sp__law_take_side (dCons (dVar 0) dNil)) (gN 2)) (rd__law_take_atmost_3 sp__law_take_side sp__law_take sp__law_see sp__law_take_number)
def rd__law_take_atmost_1 (sp__law_take_side : P1) (sp__law_take : P1) (sp__law_see : P1) (sp__law_take_number : P1) : S1 :=
  dSeq (dDrop (dCall sp__law_take (dCons (dVar 0) (dCons (dC (.str (Str.ofString "<="))) dNil)))) (rd__law_take_atmost_2 sp__law_take_side sp__law_take sp__law_see sp__law_take_number)
def rd__law_take_atmost (sp__law_take_side : P1) (sp__law_take : P1) (sp__law_see : P1) (sp__law_take_number : P1) : S1 :=
  dSeq (dAsg (dCall sp__law_take_side (dCons (dVar 0) dNil)) (gN 1)) (rd__law_take_atmost_1 sp__law_take_side sp__law_take sp__law_see sp__law_take_number)
/-! _law_take_fact: 0 _law_c, 1 _law_word_here, 2 _law_name -/
def rd__law_take_fact_9 (sp__law_see : P1) (sp__law_take_name : P1) (sp__law_take_atmost : P1) (sp__law_take : P1) : S1 :=
  (dRet (dTup (dCons (dC (.str (Str.ofString "walk"))) (dCons (dVar 2) (dCons (dCall sp__law_take_name (dCons (dVar 0) dNil)) dNil)))))
def rd__law_take_fact_8 (sp__law_see : P1) (sp__law_take_name : P1) (sp__law_take_atmost : P1) (sp__law_take : P1) : S1 :=
  dSeq (dIfS (dAndT (dNotT (dTru (dOp ixD (dVar 0) (dC (.int 2))))) (dTest (dOp eqD (dCall sp__law_see (dCons (dVar 0) dNil)) (dC (.str (Str.ofString "thing")))))) (dSeq (dAsg (dOp addD (dOp ixD (dVar 0) (dC (.int 1))) (dC (.int 1))) (gSb (dVar 0) (dC (.int 1)) setD))
  (dRet (dTup (dCons (dC (.str (Str.ofString "walk"))) (dCons (dVar 2) (dCons (dC (.str (Str.ofString "thing"))) dNil)))))) dNext) (rd__law_take_fact_9 sp__law_see sp__law_take_name sp__law_take_atmost sp__law_take)
def rd__law_take_fact_7 (sp__law_see : P1) (sp__law_take_name : P1) (sp__law_take_atmost : P1) (sp__law_take : P1) : S1 :=
  dSeq (dDrop (dCall sp__law_take (dCons (dVar 0) (dCons (dC (.str (Str.ofString "to"))) dNil)))) (rd__law_take_fact_8 sp__law_see sp__law_take_name sp__law_take_atmost sp__law_take)
def rd__law_take_fact_6 (sp__law_see : P1) (sp__law_take_name : P1) (sp__law_take_atmost : P1) (sp__law_take : P1) : S1 :=
  dSeq (dIfS (dTest (dOp eqD (dVar 1) (dC (.str (Str.ofString "\x40"))))) (dRet (dTup (dCons (dC (.str (Str.ofString "named"))) (dCons (dVar 2) dNil)))) dNext) (rd__law_take_fact_7 sp__law_see sp__law_take_name sp__law_take_atmost sp__law_take)
def rd__law_take_fact_5 (sp__law_see : P1) (sp__law_take_name : P1) (sp__law_take_atmost : P1) (sp__law_take : P1) : S1 :=
  dSeq (dAsg (dCall sp__law_take_name (dCons (dVar 0) dNil)) (gN 2)) (rd__law_take_fact_6 sp__law_see sp__law_take_name sp__law_take_atmost sp__law_take)
def rd__law_take_fact_4 (sp__law_see : P1) (sp__law_take_name : P1) (sp__law_take_atmost : P1) (sp__law_take : P1) : S1 :=
  dSeq (dIfS (dTest (dOp eqD (dVar 1) (dC (.str (Str.ofString "always"))))) (dRet (dTup (dCons (dC (.str (Str.ofString "always"))) dNil))) dNext) (rd__law_take_fact_5 sp__law_see sp__law_take_name sp__law_take_atmost sp__law_take)
def rd__law_take_fact_3 (sp__law_see : P1) (sp__law_take_name : P1) (sp__law_take_atmost : P1) (sp__law_take : P1) : S1 :=
  dSeq (dAsg (dOp addD (dOp ixD (dVar 0) (dC (.int 1))) (dC (.int 1))) (gSb (dVar 0) (dC (.int 1)) setD)) (rd__law_take_fact_4 sp__law_see sp__law_take_name sp__law_take_atmost sp__law_take)
def rd__law_take_fact_2 (sp__law_see : P1) (sp__law_take_name : P1) (sp__law_take_atmost : P1) (sp__law_take : P1) : S1 :=
  dSeq (dIfS (dTest (dOp ninD (dVar 1) (dLst (dCons (dC (.str (Str.ofString "\x40"))) (dCons (dC (.str (Str.ofString "always"))) (dCons (dC (.str (Str.ofString "by"))) dNil)))))) (dRet (dCall sp__law_take_atmost (dCons (dVar 0) dNil))) dNext) (rd__law_take_fact_3 sp__law_see sp__law_take_name sp__law_take_atmost sp__law_take)
def rd__law_take_fact_1 (sp__law_see : P1) (sp__law_take_name : P1) (sp__law_take_atmost : P1) (sp__law_take : P1) : S1 :=
  dSeq (dIfS (dAndT (dTest (dOp inD (dVar 1) (dLst (dCons (dC (.str (Str.ofString "asker"))) (dCons (dC (.str (Str.ofString "thing"))) (dCons (dC (.str (Str.ofString "ask"))) dNil)))))) (dTest (dOp eqD (dSl (dOp ixD (dVar 0) (dC (.int 0))) (dPart (dOp addD (dOp ixD (dVar 0) (dC (.int 1))) (dC (.int 1)))) (dPart (dOp addD (dOp ixD (dVar 0) (dC (.int 1))) (dC (.int 2))))) (dLst (dCons (dC (.str (Str.ofString "is"))) dNil))))) (dSeq (dAsg (dOp addD (dOp ixD (dVar 0) (dC (.int 1))) (dC (.int 2))) (gSb (dVar 0) (dC (.int 1)) setD))
  (dSeq (dAsg (dCall sp__law_take_name (dCons (dVar 0) dNil)) (gN 2))
  (dRet (dIf (dTest (dOp eqD (dVar 1) (dC (.str (Str.ofString "ask"))))) (dTup (dCons (dC (.str (Str.ofString "flag"))) (dCons (dVar 2) dNil))) (dTup (dCons (dC (.str (Str.ofString "tag"))) (dCons (dVar 1) (dCons (dVar 2) dNil)))))))) dNext) (rd__law_take_fact_2 sp__law_see sp__law_take_name sp__law_take_atmost sp__law_take)
def rd__law_take_fact (sp__law_see : P1) (sp__law_take_name : P1) (sp__law_take_atmost : P1) (sp__law_take : P1) : S1 :=
  dSeq (dAsg (dCall sp__law_see (dCons (dVar 0) dNil)) (gN 1)) (rd__law_take_fact_1 sp__law_see sp__law_take_name sp__law_take_atmost sp__law_take)
/-! _law_take_cond: 0 _law_c, 1 _law_values, 2 _law_waits, 3 _law_ready, 4 _law_k, 5 _law_word_here, 6 _law_turn -/
def rd__law_take_cond_b2_3 (sp__law_see : P1) (sp__law_take_fact : P1) (sp__law_fold : P1) : S1 :=
  (dAsg (dC (.bool false)) (gN 3))
def rd__law_take_cond_b2_2 (sp__law_see : P1) (sp__law_take_fact : P1) (sp__law_fold : P1) : S1 :=
  dSeq (dAsg (dOp addD (dOp ixD (dVar 0) (dC (.int 1))) (dC (.int 1))) (gSb (dVar 0) (dC (.int 1)) setD)) (rd__law_take_cond_b2_3 sp__law_see sp__law_take_fact sp__law_fold)
def rd__law_take_cond_b2_1 (sp__law_see : P1) (sp__law_take_fact : P1) (sp__law_fold : P1) : S1 :=
  dSeq (dDrop (dBM okL appendD (dVar 2) (dCons (dVar 5) dNil))) (rd__law_take_cond_b2_2 sp__law_see sp__law_take_fact sp__law_fold)
def rd__law_take_cond_b2 (sp__law_see : P1) (sp__law_take_fact : P1) (sp__law_fold : P1) : S1 :=
  dSeq (dDrop (dCall sp__law_fold (dCons (dVar 1) (dCons (dVar 2) (dCons (dIf (dTest (dOp eqD (dVar 5) (dC (.str (Str.ofString "and"))))) (dLst (dCons (dC (.str (Str.ofString "and"))) dNil)) (dLst (dCons (dC (.str (Str.ofString "and"))) (dCons (dC (.str (Str.ofString "or"))) dNil)))) dNil))))) (rd__law_take_cond_b2_1 sp__law_see sp__law_take_fact sp__law_fold)
def rd__law_take_cond_b3 (sp__law_see : P1) (sp__law_take_fact : P1) (sp__law_fold : P1) : S1 :=
  (dIfS (dAndT (dTru (dVar 3)) (dAndT (dTest (dOp gtD (dCall (on1 lenD) (dCons (dVar 2) dNil)) (dC (.int 0)))) (dTest (dOp eqD (dOp ixD (dVar 2) (dUn negD (dC (.int 1)))) (dC (.str (Str.ofString "not"))))))) (dSeq (dDrop (dBM0 okL popD (dVar 2)))
  (dDrop (dBM okL appendD (dVar 1) (dCons (dTup (dCons (dC (.str (Str.ofString "not"))) (dCons (dBM0 okL popD (dVar 1)) dNil))) dNil)))) dNext)
def rd__law_take_cond_b1_3 (sp__law_see : P1) (sp__law_take_fact : P1) (sp__law_fold : P1) : S1 :=
  (dFor (iRg1 (dCons (dCall (on1 lenD) (dCons (dVar 2) dNil)) dNil)) (gN 6) (rd__law_take_cond_b3 sp__law_see sp__law_take_fact sp__law_fold))
def rd__law_take_cond_b1_2 (sp__law_see : P1) (sp__law_take_fact : P1) (sp__law_fold : P1) : S1 :=
  dSeq (dIfS (dTru (dOp ixD (dVar 0) (dC (.int 2)))) (dRet (dTup dNil)) dNext) (rd__law_take_cond_b1_3 sp__law_see sp__law_take_fact sp__law_fold)
def rd__law_take_cond_b1_1 (sp__law_see : P1) (sp__law_take_fact : P1) (sp__law_fold : P1) : S1 :=
  dSeq (dIfS (dAndT (dNotT (dTru (dVar 3))) (dTest (dOp inD (dVar 5) (dLst (dCons (dC (.str (Str.ofString "("))) (dCons (dC (.str (Str.ofString "not"))) dNil)))))) (dSeq (dDrop (dBM okL appendD (dVar 2) (dCons (dVar 5) dNil)))
  (dAsg (dOp addD (dOp ixD (dVar 0) (dC (.int 1))) (dC (.int 1))) (gSb (dVar 0) (dC (.int 1)) setD))) (dIfS (dNotT (dTru (dVar 3))) (dSeq (dDrop (dBM okL appendD (dVar 1) (dCons (dCall sp__law_take_fact (dCons (dVar 0) dNil)) dNil)))
  (dAsg (dC (.bool true)) (gN 3))) (dIfS (dTest (dOp inD (dVar 5) (dLst (dCons (dC (.str (Str.ofString "and"))) (dCons (dC (.str (Str.ofString "or"))) dNil))))) (rd__law_take_cond_b2 sp__law_see sp__law_take_fact sp__law_fold) (dIfS (dAndT (dTest (dOp eqD (dVar 5) (dC (.str (Str.ofString ")"))))) (dTest (dOp inD (dC (.str (Str.ofString "("))) (dVar 2)))) (dSeq (dDrop (dCall sp__law_fold (dCons (dVar 1) (dCons (dVar 2) (dCons (dLst (dCons (dC (.str (Str.ofString "and"))) (dCons (dC (.str (Str.ofString "or"))) dNil))) dNil)))))
  (dSeq (dDrop (dBM0 okL popD (dVar 2)))
  (dAsg (dOp addD (dOp ixD (dVar 0) (dC (.int 1))) (dC (.int 1))) (gSb (dVar 0) (dC (.int 1)) setD)))) dBrk)))) (rd__law_take_cond_b1_2 sp__law_see sp__law_take_fact sp__law_fold)
def rd__law_take_cond_b1 (sp__law_see : P1) (sp__law_take_fact : P1) (sp__law_fold : P1) : S1 :=
  dSeq (dAsg (dCall sp__law_see (dCons (dVar 0) dNil)) (gN 5)) (rd__law_take_cond_b1_1 sp__law_see sp__law_take_fact sp__law_fold)
def rd__law_take_cond_6 (sp__law_see : P1) (sp__law_take_fact : P1) (sp__law_fold : P1) : S1 :=
  (dRet (dOp ixD (dVar 1) (dC (.int 0))))
def rd__law_take_cond_5 (sp__law_see : P1) (sp__law_take_fact : P1) (sp__law_fold : P1) : S1 :=
  dSeq (dDrop (dCall sp__law_fold (dCons (dVar 1) (dCons (dVar 2) (dCons (dLst (dCons (dC (.str (Str.ofString "and"))) (dCons (dC (.str (Str.ofString "or"))) dNil))) dNil))))) (rd__law_take_cond_6 sp__law_see sp__law_take_fact sp__law_fold)
def rd__law_take_cond_4 (sp__law_see : P1) (sp__law_take_fact : P1) (sp__law_fold : P1) : S1 :=
  dSeq (dIfS (dTest (dOp inD (dC (.str (Str.ofString "("))) (dVar 2))) (dSeq (dAsg (dC (.bool true)) (gSb (dVar 0) (dC (.int 2)) setD))
  (dRet (dTup dNil))) dNext) (rd__law_take_cond_5 sp__law_see sp__law_take_fact sp__law_fold)
def rd__law_take_cond_3 (sp__law_see : P1) (sp__law_take_fact : P1) (sp__law_fold : P1) : S1 :=
  dSeq (dFor (iRg1 (dCons (dOp addD (dCall (on1 lenD) (dCons (dOp ixD (dVar 0) (dC (.int 0))) dNil)) (dC (.int 1))) dNil)) (gN 4) (rd__law_take_cond_b1 sp__law_see sp__law_take_fact sp__law_fold)) (rd__law_take_cond_4 sp__law_see sp__law_take_fact sp__law_fold)
def rd__law_take_cond_2 (sp__law_see : P1) (sp__law_take_fact : P1) (sp__law_fold : P1) : S1 :=
  dSeq (dAsg (dC (.bool false)) (gN 3)) (rd__law_take_cond_3 sp__law_see sp__law_take_fact sp__law_fold)
def rd__law_take_cond_1 (sp__law_see : P1) (sp__law_take_fact : P1) (sp__law_fold : P1) : S1 :=
  dSeq (dAsg (dLst dNil) (gN 2)) (rd__law_take_cond_2 sp__law_see sp__law_take_fact sp__law_fold)
def rd__law_take_cond (sp__law_see : P1) (sp__law_take_fact : P1) (sp__law_fold : P1) : S1 :=
  dSeq (dAsg (dLst dNil) (gN 1)) (rd__law_take_cond_1 sp__law_see sp__law_take_fact sp__law_fold)
/-! _law_whole: 0 _law_words, 1 _law_c, 2 _law_cond -/
def rd__law_whole_2 (sp__law_take_cond : P1) : S1 :=
  (dRet (dIf (dOrT (dTru (dOp ixD (dVar 1) (dC (.int 2)))) (dOrT (dTest (dOp ltD (dOp ixD (dVar 1) (dC (.int 1))) (dCall (on1 lenD) (dCons (dVar 0) dNil)))) (dTest (dOp gtD (dOp ixD (dVar 1) (dC (.int 3))) (dC (.int 0)))))) (dC .none) (dVar 2)))
def rd__law_whole_1 (sp__law_take_cond : P1) : S1 :=
  dSeq (dAsg (dCall sp__law_take_cond (dCons (dVar 1) dNil)) (gN 2)) (rd__law_whole_2 sp__law_take_cond)
def rd__law_whole (sp__law_take_cond : P1) : S1 :=
  dSeq (dAsg (dLst (dCons (dVar 0) (dCons (dC (.int 0)) (dCons (dC (.bool false)) (dCons (dC (.int 0)) dNil))))) (gN 1)) (rd__law_whole_1 sp__law_take_cond)
/-! cond_tokens: 0 cond, 1 needed, 2 word -/
def rd_cond_tokens_4 (sp_enclosed : P1) (sp_cond_tokens : P1) (sp_atom_tokens : P1) : S1 :=
  (dRet (dCall sp_atom_tokens (dCons (dVar 0) dNil)))
def rd_cond_tokens_3 (sp_enclosed : P1) (sp_cond_tokens : P1) (sp_atom_tokens : P1) : S1 :=
  dSeq (dIfS (dTest (dOp eqD (dVar 2) (dC (.str (Str.ofString "not"))))) (dRet (dOp addD (dLst (dCons (dC (.str (Str.ofString "not"))) dNil)) (dCall sp_cond_tokens (dCons (dOp ixD (dVar 0) (dC (.int 1))) (dCons (dC (.int 2)) dNil))))) dNext) (rd_cond_tokens_4 sp_enclosed sp_cond_tokens sp_atom_tokens)
def rd_cond_tokens_2 (sp_enclosed : P1) (sp_cond_tokens : P1) (sp_atom_tokens : P1) : S1 :=
  dSeq (dIfS (dTest (dOp eqD (dVar 2) (dC (.str (Str.ofString "and"))))) (dRet (dCall sp_enclosed (dCons (dOp addD (dOp addD (dCall sp_cond_tokens (dCons (dOp ixD (dVar 0) (dC (.int 1))) (dCons (dC (.int 1)) dNil))) (dLst (dCons (dC (.str (Str.ofString "and"))) dNil))) (dCall sp_cond_tokens (dCons (dOp ixD (dVar 0) (dC (.int 2))) (dCons (dC (.int 2)) dNil)))) (dCons (dC (.int 1)) (dCons (dVar 1) dNil))))) dNext) (rd_cond_tokens_3 sp_enclosed sp_cond_tokens sp_atom_tokens)
def rd_cond_tokens_1 (sp_enclosed : P1) (sp_cond_tokens : P1) (sp_atom_tokens : P1) : S1 :=
  dSeq (dIfS (dTest (dOp eqD (dVar 2) (dC (.str (Str.ofString "or"))))) (dRet (dCall sp_enclosed (dCons (dOp addD (dOp addD (dCall sp_cond_tokens (dCons (dOp ixD (dVar 0) (dC (.int 1))) (dCons (dC (.int 0)) dNil))) (dLst (dCons (dC (.str (Str.ofString "or"))) dNil))) (dCall sp_cond_tokens (dCons (dOp ixD (dVar 0) (dC (.int 2))) (dCons (dC (.int 1)) dNil)))) (dCons (dC (.int 0)) (dCons (dVar 1) dNil))))) dNext) (rd_cond_tokens_2 sp_enclosed sp_cond_tokens sp_atom_tokens)
def rd_cond_tokens (sp_enclosed : P1) (sp_cond_tokens : P1) (sp_atom_tokens : P1) : S1 :=
  dSeq (dAsg (dOp ixD (dVar 0) (dC (.int 0))) (gN 2)) (rd_cond_tokens_1 sp_enclosed sp_cond_tokens sp_atom_tokens)
/-! policy_tokens: 0 line, 1 word, 2 name, 3 rank, 4 askers, 5 acts, 6 things, 7 cond, 8 duties, 9 front -/
def rd_policy_tokens_2 (sp_act_tokens : P1) (sp_cond_tokens : P1) : S1 :=
  (dRet (dOp addD (dOp addD (dOp addD (dVar 9) (dLst (dCons (dC (.str (Str.ofString "when"))) dNil))) (dCall sp_cond_tokens (dCons (dVar 7) (dCons (dC (.int 0)) dNil)))) (dIf (dTru (dVar 8)) (dOp addD (dLst (dCons (dC (.str (Str.ofString "due"))) dNil)) (dCall (on1 listD) (dCons (dVar 8) dNil))) (dLst dNil))))
def rd_policy_tokens_1 (sp_act_tokens : P1) (sp_cond_tokens : P1) : S1 :=
  dSeq (dAsg (dOp addD (dOp addD (dOp addD (dOp addD (dOp addD (dLst (dCons (dVar 1) (dCons (dVar 2) (dCons (dC (.str (Str.ofString "rank"))) (dCons (dCall (on1 strD) (dCons (dVar 3) dNil)) dNil))))) (dCall (on1 listD) (dCons (dVar 4) dNil))) (dLst (dCons (dC (.str (Str.ofString "may"))) dNil))) (dCall sp_act_tokens (dCons (dVar 5) dNil))) (dLst (dCons (dC (.str (Str.ofString "on"))) dNil))) (dCall (on1 listD) (dCons (dVar 6) dNil))) (gN 9)) (rd_policy_tokens_2 sp_act_tokens sp_cond_tokens)
def rd_policy_tokens (sp_act_tokens : P1) (sp_cond_tokens : P1) : S1 :=
  dSeq (dAsg (dVar 0) (gTp 8 (gCn (gN 1) (gCn (gN 2) (gCn (gN 3) (gCn (gN 4) (gCn (gN 5) (gCn (gN 6) (gCn (gN 7) (gCn (gN 8) gNl)))))))))) (rd_policy_tokens_1 sp_act_tokens sp_cond_tokens)
/-! write_cond: 0 cond -/
def rd_write_cond (sp_cond_tokens : P1) : S1 :=
  (dRet (dJoin (dC (.str (Str.ofString " "))) (dCall sp_cond_tokens (dCons (dVar 0) (dCons (dC (.int 0)) dNil)))))
/-! line_tokens: 0 line, 1 word -/
def rd_line_tokens_9 (sp_test_tokens : P1) (sp_any_walk_tokens : P1) (sp_cond_tokens : P1) (sp_policy_tokens : P1) : S1 :=
  (dRet (dCall sp_policy_tokens (dCons (dVar 0) dNil)))
def rd_line_tokens_8 (sp_test_tokens : P1) (sp_any_walk_tokens : P1) (sp_cond_tokens : P1) (sp_policy_tokens : P1) : S1 :=
  dSeq (dIfS (dTest (dOp eqD (dVar 1) (dC (.str (Str.ofString "gate"))))) (dRet (dLst (dCons (dVar 1) (dCons (dOp ixD (dVar 0) (dC (.int 1))) (dCons (dC (.str (Str.ofString "by"))) (dCons (dOp ixD (dVar 0) (dC (.int 2))) (dCons (dC (.str (Str.ofString "on"))) (dCons (dOp ixD (dVar 0) (dC (.int 3))) dNil)))))))) dNext) (rd_line_tokens_9 sp_test_tokens sp_any_walk_tokens sp_cond_tokens sp_policy_tokens)
def rd_line_tokens_7 (sp_test_tokens : P1) (sp_any_walk_tokens : P1) (sp_cond_tokens : P1) (sp_policy_tokens : P1) : S1 :=
  dSeq (dIfS (dTest (dOp eqD (dVar 1) (dC (.str (Str.ofString "role"))))) (dRet (dOp addD (dLst (dCons (dVar 1) (dCons (dOp ixD (dVar 0) (dC (.int 1))) (dCons (dC (.str (Str.ofString "="))) dNil)))) (dCall (on1 listD) (dCons (dOp ixD (dVar 0) (dC (.int 2))) dNil)))) dNext) (rd_line_tokens_8 sp_test_tokens sp_any_walk_tokens sp_cond_tokens sp_policy_tokens)
def rd_line_tokens_6 (sp_test_tokens : P1) (sp_any_walk_tokens : P1) (sp_cond_tokens : P1) (sp_policy_tokens : P1) : S1 :=
  dSeq (dIfS (dTest (dOp eqD (dVar 1) (dC (.str (Str.ofString "when"))))) (dRet (dOp addD (dLst (dCons (dVar 1) (dCons (dOp ixD (dVar 0) (dC (.int 1))) (dCons (dC (.str (Str.ofString "="))) dNil)))) (dCall sp_cond_tokens (dCons (dOp ixD (dVar 0) (dC (.int 2))) (dCons (dC (.int 0)) dNil))))) dNext) (rd_line_tokens_7 sp_test_tokens sp_any_walk_tokens sp_cond_tokens sp_policy_tokens)
def rd_line_tokens_5 (sp_test_tokens : P1) (sp_any_walk_tokens : P1) (sp_cond_tokens : P1) (sp_policy_tokens : P1) : S1 :=
  dSeq (dIfS (dTest (dOp eqD (dVar 1) (dC (.str (Str.ofString "walk"))))) (dRet (dOp addD (dLst (dCons (dVar 1) (dCons (dOp ixD (dVar 0) (dC (.int 1))) (dCons (dC (.str (Str.ofString "="))) dNil)))) (dCall sp_any_walk_tokens (dCons (dOp ixD (dVar 0) (dC (.int 2))) dNil)))) dNext) (rd_line_tokens_6 sp_test_tokens sp_any_walk_tokens sp_cond_tokens sp_policy_tokens)
def rd_line_tokens_4 (sp_test_tokens : P1) (sp_any_walk_tokens : P1) (sp_cond_tokens : P1) (sp_policy_tokens : P1) : S1 :=
  dSeq (dIfS (dTest (dOp eqD (dVar 1) (dC (.str (Str.ofString "never"))))) (dRet (dOp addD (dOp addD (dOp addD (dLst (dCons (dVar 1) (dCons (dOp ixD (dVar 0) (dC (.int 1))) dNil))) (dCall sp_test_tokens (dCons (dOp ixD (dVar 0) (dC (.int 2))) dNil))) (dLst (dCons (dC (.str (Str.ofString "to"))) dNil))) (dCall sp_test_tokens (dCons (dOp ixD (dVar 0) (dC (.int 3))) dNil)))) dNext) (rd_line_tokens_5 sp_test_tokens sp_any_walk_tokens sp_cond_tokens sp_policy_tokens)
def rd_line_tokens_3 (sp_test_tokens : P1) (sp_any_walk_tokens : P1) (sp_cond_tokens : P1) (sp_policy_tokens : P1) : S1 :=
  dSeq (dIfS (dTest (dOp eqD (dVar 1) (dC (.str (Str.ofString "tie"))))) (dRet (dOp addD (dOp addD (dOp addD (dLst (dCons (dVar 1) (dCons (dOp ixD (dVar 0) (dC (.int 1))) (dCons (dC (.str (Str.ofString "from"))) dNil)))) (dCall (on1 listD) (dCons (dOp ixD (dVar 0) (dC (.int 2))) dNil))) (dLst (dCons (dC (.str (Str.ofString "to"))) dNil))) (dCall (on1 listD) (dCons (dOp ixD (dVar 0) (dC (.int 3))) dNil)))) dNext) (rd_line_tokens_4 sp_test_tokens sp_any_walk_tokens sp_cond_tokens sp_policy_tokens)
def rd_line_tokens_2 (sp_test_tokens : P1) (sp_any_walk_tokens : P1) (sp_cond_tokens : P1) (sp_policy_tokens : P1) : S1 :=
  dSeq (dIfS (dTest (dOp inD (dVar 1) (dTup (dCons (dC (.str (Str.ofString "tag"))) (dCons (dC (.str (Str.ofString "number"))) dNil))))) (dRet (dOp addD (dLst (dCons (dVar 1) (dCons (dOp ixD (dVar 0) (dC (.int 1))) (dCons (dC (.str (Str.ofString "on"))) dNil)))) (dCall (on1 listD) (dCons (dOp ixD (dVar 0) (dC (.int 2))) dNil)))) dNext) (rd_line_tokens_3 sp_test_tokens sp_any_walk_tokens sp_cond_tokens sp_policy_tokens)
def rd_line_tokens_1 (sp_test_tokens : P1) (sp_any_walk_tokens : P1) (sp_cond_tokens : P1) (sp_policy_tokens : P1) : S1 :=
  dSeq (dIfS (dTest (dOp inD (dVar 1) (dC (.tup (ck_NAME_LINES.map D.str))))) (dRet (dOp addD (dLst (dCons (dVar 1) dNil)) (dCall (on1 listD) (dCons (dOp ixD (dVar 0) (dC (.int 1))) dNil)))) dNext) (rd_line_tokens_2 sp_test_tokens sp_any_walk_tokens sp_cond_tokens sp_policy_tokens)
def rd_line_tokens (sp_test_tokens : P1) (sp_any_walk_tokens : P1) (sp_cond_tokens : P1) (sp_policy_tokens : P1) : S1 :=
  dSeq (dAsg (dOp ixD (dVar 0) (dC (.int 0))) (gN 1)) (rd_line_tokens_1 sp_test_tokens sp_any_walk_tokens sp_cond_tokens sp_policy_tokens)
/-! write: 0 tree, 1 line -/
def rd_write (sp_line_tokens : P1) : S1 :=
  (dRet (dJoin (dC (.str (Str.ofString ""))) (dLc (iSeq (dVar 0)) (gN 1) dYes (dOp addD (dJoin (dC (.str (Str.ofString " "))) (dOp addD (dCall sp_line_tokens (dCons (dVar 1) dNil)) (dLst (dCons (dC (.str (Str.ofString ";"))) dNil)))) (dC (.str (Str.ofString "\n")))) [1])))
/-! _law_given: 0 _law_d, 1 _law_deep, 2 _law_room, 3 _law_tall, 4 _law_way, 5 _law_first, 6 _law_second, 7 _law_word_here -/
def rd__law_given_7 (sp__law_draw : P1) (sp__law_fact : P1) (sp__law_given : P1) : S1 :=
  (dRet (dIf (dTest (dOp eqD (dCall sp__law_draw (dCons (dVar 0) (dCons (dC (.int 2)) dNil))) (dC (.int 0)))) (dTup (dCons (dVar 7) (dCons (dVar 5) (dCons (dVar 6) dNil)))) (dTup (dCons (dVar 7) (dCons (dVar 6) (dCons (dVar 5) dNil))))))
def rd__law_given_6 (sp__law_draw : P1) (sp__law_fact : P1) (sp__law_given : P1) : S1 :=
  dSeq (dAsg (dIf (dTest (dOp eqD (dCall sp__law_draw (dCons (dVar 0) (dCons (dC (.int 2)) dNil))) (dC (.int 0)))) (dC (.str (Str.ofString "and"))) (dC (.str (Str.ofString "or")))) (gN 7)) (rd__law_given_7 sp__law_draw sp__law_fact sp__law_given)
def rd__law_given_5 (sp__law_draw : P1) (sp__law_fact : P1) (sp__law_given : P1) : S1 :=
  dSeq (dAsg (dCall sp__law_given (dCons (dVar 0) (dCons (dOp subD (dVar 1) (dC (.int 1))) (dCons (dVar 2) (dCons (dC (.bool false)) dNil))))) (gN 6)) (rd__law_given_6 sp__law_draw sp__law_fact sp__law_given)
def rd__law_given_4 (sp__law_draw : P1) (sp__law_fact : P1) (sp__law_given : P1) : S1 :=
  dSeq (dAsg (dCall sp__law_given (dCons (dVar 0) (dCons (dOp subD (dVar 1) (dC (.int 1))) (dCons (dVar 2) (dCons (dVar 3) dNil))))) (gN 5)) (rd__law_given_5 sp__law_draw sp__law_fact sp__law_given)
def rd__law_given_3 (sp__law_draw : P1) (sp__law_fact : P1) (sp__law_given : P1) : S1 :=
  dSeq (dIfS (dTest (dOp ltD (dVar 4) (dC (.int 5)))) (dRet (dTup (dCons (dC (.str (Str.ofString "not"))) (dCons (dCall sp__law_given (dCons (dVar 0) (dCons (dOp subD (dVar 1) (dC (.int 1))) (dCons (dVar 2) (dCons (dVar 3) dNil))))) dNil)))) dNext) (rd__law_given_4 sp__law_draw sp__law_fact sp__law_given)
def rd__law_given_2 (sp__law_draw : P1) (sp__law_fact : P1) (sp__law_given : P1) : S1 :=
  dSeq (dIfS (dOrT (dTest (dOp eqD (dVar 1) (dC (.int 1)))) (dAndT (dNotT (dTru (dVar 3))) (dOrT (dTest (dOp ltD (dVar 4) (dC (.int 3)))) (dTest (dOp ltD (dOp ixD (dVar 2) (dC (.int 0))) (dC (.int 1))))))) (dRet (dCall sp__law_fact (dCons (dVar 0) dNil))) dNext) (rd__law_given_3 sp__law_draw sp__law_fact sp__law_given)
def rd__law_given_1 (sp__law_draw : P1) (sp__law_fact : P1) (sp__law_given : P1) : S1 :=
  dSeq (dAsg (dCall sp__law_draw (dCons (dVar 0) (dCons (dC (.int 8)) dNil))) (gN 4)) (rd__law_given_2 sp__law_draw sp__law_fact sp__law_given)
def rd__law_given (sp__law_draw : P1) (sp__law_fact : P1) (sp__law_given : P1) : S1 :=
  dSeq (dAsg (dOp subD (dOp ixD (dVar 2) (dC (.int 0))) (dC (.int 1))) (gSb (dVar 2) (dC (.int 0)) setD)) (rd__law_given_1 sp__law_draw sp__law_fact sp__law_given)
/-! _law_same: 0 _law_told, 1 _law_due, 2 _law_k -/
def rd__law_same_4 (sp__law_same : P1) (sp__law_is_int : P1) : S1 :=
  (dRet (dAndV (dCall (on2 isiD) (dCons (dVar 0) (dCons (dC (.ty "str")) dNil))) (dOp eqD (dVar 0) (dVar 1))))
def rd__law_same_3 (sp__law_same : P1) (sp__law_is_int : P1) : S1 :=
  dSeq (dIfS (dTru (dCall (on2 isiD) (dCons (dVar 1) (dCons (dC (.ty "int")) dNil)))) (dRet (dAndV (dCall sp__law_is_int (dCons (dVar 0) dNil)) (dOp eqD (dVar 0) (dVar 1)))) dNext) (rd__law_same_4 sp__law_same sp__law_is_int)
def rd__law_same_2 (sp__law_same : P1) (sp__law_is_int : P1) : S1 :=
  dSeq (dIfS (dTru (dCall (on2 isiD) (dCons (dVar 1) (dCons (dC (.ty "bool")) dNil)))) (dRet (dAndV (dCall (on2 isiD) (dCons (dVar 0) (dCons (dC (.ty "bool")) dNil))) (dOp eqD (dVar 0) (dVar 1)))) dNext) (rd__law_same_3 sp__law_same sp__law_is_int)
def rd__law_same_1 (sp__law_same : P1) (sp__law_is_int : P1) : S1 :=
  dSeq (dIfS (dTest (dOp isD (dVar 1) (dC .none))) (dRet (dOp isD (dVar 0) (dC .none))) dNext) (rd__law_same_2 sp__law_same sp__law_is_int)
def rd__law_same (sp__law_same : P1) (sp__law_is_int : P1) : S1 :=
  dSeq (dIfS (dTru (dCall (on2 isiD) (dCons (dVar 1) (dCons (dC (.ty "tuple")) dNil)))) (dSeq (dIfS (dOrT (dNotT (dTru (dCall (on2 isiD) (dCons (dVar 0) (dCons (dC (.ty "tuple")) dNil))))) (dTest (dOp neD (dCall (on1 lenD) (dCons (dVar 0) dNil)) (dCall (on1 lenD) (dCons (dVar 1) dNil))))) (dRet (dC (.bool false))) dNext)
  (dRet (dCall (on1 allD) (dCons (dLc (iRg1 (dCons (dCall (on1 lenD) (dCons (dVar 1) dNil)) dNil)) (gN 2) dYes (dCall sp__law_same (dCons (dOp ixD (dVar 0) (dVar 2)) (dCons (dOp ixD (dVar 1) (dVar 2)) dNil))) [2]) dNil)))) dNext) (rd__law_same_1 sp__law_same sp__law_is_int)
/-! _law_any_cond: 0 _law_d, 1 _law_size -/
def rd__law_any_cond_1 (sp__law_draw : P1) (sp__law_given : P1) : S1 :=
  (dRet (dCall sp__law_given (dCons (dVar 0) (dCons (dC (.int 12)) (dCons (dLst (dCons (dOp addD (dC (.int 1)) (dCall sp__law_draw (dCons (dVar 0) (dCons (dVar 1) dNil)))) dNil)) (dCons (dC (.bool false)) dNil))))))
def rd__law_any_cond (sp__law_draw : P1) (sp__law_given : P1) : S1 :=
  dSeq (dIfS (dAndT (dTest (dOp gtD (dVar 1) (dC (.int 5)))) (dTest (dOp eqD (dCall sp__law_draw (dCons (dVar 0) (dCons (dC (.int 6)) dNil))) (dC (.int 0))))) (dRet (dCall sp__law_given (dCons (dVar 0) (dCons (dC (.int 12)) (dCons (dLst (dCons (dC (.int 3)) dNil)) (dCons (dC (.bool true)) dNil)))))) dNext) (rd__law_any_cond_1 sp__law_draw sp__law_given)
/-! _law_is_text: 0 _law_cond, 1 _law_words, 2 _law_k, 3 _law_other -/
def rd__law_is_text_b1 (sp__law_same : P1) (sp__law_whole : P1) (sp__law_partner : P1) : S1 :=
  (dIfS (dTest (dOp eqD (dOp ixD (dVar 1) (dVar 2)) (dC (.str (Str.ofString "("))))) (dSeq (dAsg (dCall sp__law_partner (dCons (dVar 1) (dCons (dVar 2) dNil))) (gN 3))
  (dIfS (dTru (dCall sp__law_same (dCons (dCall sp__law_whole (dCons (dOp addD (dOp addD (dSl (dVar 1) dNoPart (dPart (dVar 2))) (dSl (dVar 1) (dPart (dOp addD (dVar 2) (dC (.int 1)))) (dPart (dVar 3)))) (dSl (dVar 1) (dPart (dOp addD (dVar 3) (dC (.int 1)))) dNoPart)) dNil)) (dCons (dVar 0) dNil)))) (dRet (dC (.bool false))) dNext)) dNext)
def rd__law_is_text_2 (sp__law_same : P1) (sp__law_whole : P1) (sp__law_partner : P1) : S1 :=
  (dRet (dC (.bool true)))
def rd__law_is_text_1 (sp__law_same : P1) (sp__law_whole : P1) (sp__law_partner : P1) : S1 :=
  dSeq (dFor (iRg1 (dCons (dCall (on1 lenD) (dCons (dVar 1) dNil)) dNil)) (gN 2) (rd__law_is_text_b1 sp__law_same sp__law_whole sp__law_partner)) (rd__law_is_text_2 sp__law_same sp__law_whole sp__law_partner)
def rd__law_is_text (sp__law_same : P1) (sp__law_whole : P1) (sp__law_partner : P1) : S1 :=
  dSeq (dIfS (dNotT (dTru (dCall sp__law_same (dCons (dCall sp__law_whole (dCons (dVar 1) dNil)) (dCons (dVar 0) dNil))))) (dRet (dC (.bool false))) dNext) (rd__law_is_text_1 sp__law_same sp__law_whole sp__law_partner)
/-! law: 0 _law_script, 1 _law_d, 2 _law_first, 3 _law_second, 4 _law_cond, 5 _law_text, 6 _law_name -/
def rd_law_b1_3 (sp__law_begin : P1) (sp__law_any_cond : P1) (sp_write_cond : P1) (sp__law_is_text : P1) (sp__law_word : P1) (sp_write : P1) : S1 :=
  (dIfS (dTest (dOp neD (dCall sp_write (dCons (dTup (dCons (dTup (dCons (dC (.str (Str.ofString "when"))) (dCons (dVar 6) (dCons (dVar 4) dNil)))) dNil)) dNil)) (dOp addD (dOp addD (dOp addD (dOp addD (dC (.str (Str.ofString "when "))) (dVar 6)) (dC (.str (Str.ofString " = ")))) (dVar 5)) (dC (.str (Str.ofString " ;\n")))))) (dRet (dC (.bool false))) dNext)
def rd_law_b1_2 (sp__law_begin : P1) (sp__law_any_cond : P1) (sp_write_cond : P1) (sp__law_is_text : P1) (sp__law_word : P1) (sp_write : P1) : S1 :=
  dSeq (dAsg (dCall sp__law_word (dCons (dVar 1) dNil)) (gN 6)) (rd_law_b1_3 sp__law_begin sp__law_any_cond sp_write_cond sp__law_is_text sp__law_word sp_write)
def rd_law_b1_1 (sp__law_begin : P1) (sp__law_any_cond : P1) (sp_write_cond : P1) (sp__law_is_text : P1) (sp__law_word : P1) (sp_write : P1) : S1 :=
  dSeq (dIfS (dOrT (dNotT (dTru (dCall (on2 isiD) (dCons (dVar 5) (dCons (dC (.ty "str")) dNil))))) (dNotT (dTru (dCall sp__law_is_text (dCons (dVar 4) (dCons (dSplit (dVar 5) (dC (.str (Str.ofString " ")))) dNil)))))) (dRet (dC (.bool false))) dNext) (rd_law_b1_2 sp__law_begin sp__law_any_cond sp_write_cond sp__law_is_text sp__law_word sp_write)
def rd_law_b1 (sp__law_begin : P1) (sp__law_any_cond : P1) (sp_write_cond : P1) (sp__law_is_text : P1) (sp__law_word : P1) (sp_write : P1) : S1 :=
  dSeq (dAsg (dCall sp_write_cond (dCons (dVar 4) dNil)) (gN 5)) (rd_law_b1_1 sp__law_begin sp__law_any_cond sp_write_cond sp__law_is_text sp__law_word sp_write)
def rd_law_4 (sp__law_begin : P1) (sp__law_any_cond : P1) (sp_write_cond : P1) (sp__law_is_text : P1) (sp__law_word : P1) (sp_write : P1) : S1 :=
  (dRet (dC (.bool true)))
def rd_law_3 (sp__law_begin : P1) (sp__law_any_cond : P1) (sp_write_cond : P1) (sp__law_is_text : P1) (sp__law_word : P1) (sp_write : P1) : S1 :=
  dSeq (dFor (iSeq (dLst (dCons (dVar 2) (dCons (dVar 3) (dCons (dVar 2) dNil))))) (gN 4) (rd_law_b1 sp__law_begin sp__law_any_cond sp_write_cond sp__law_is_text sp__law_word sp_write)) (rd_law_4 sp__law_begin sp__law_any_cond sp_write_cond sp__law_is_text sp__law_word sp_write)
def rd_law_2 (sp__law_begin : P1) (sp__law_any_cond : P1) (sp_write_cond : P1) (sp__law_is_text : P1) (sp__law_word : P1) (sp_write : P1) : S1 :=
  dSeq (dAsg (dCall sp__law_any_cond (dCons (dVar 1) (dCons (dC (.int 6)) dNil))) (gN 3)) (rd_law_3 sp__law_begin sp__law_any_cond sp_write_cond sp__law_is_text sp__law_word sp_write)
def rd_law_1 (sp__law_begin : P1) (sp__law_any_cond : P1) (sp_write_cond : P1) (sp__law_is_text : P1) (sp__law_word : P1) (sp_write : P1) : S1 :=
  dSeq (dAsg (dCall sp__law_any_cond (dCons (dVar 1) (dCons (dC (.int 24)) dNil))) (gN 2)) (rd_law_2 sp__law_begin sp__law_any_cond sp_write_cond sp__law_is_text sp__law_word sp_write)
def rd_law (sp__law_begin : P1) (sp__law_any_cond : P1) (sp_write_cond : P1) (sp__law_is_text : P1) (sp__law_word : P1) (sp_write : P1) : S1 :=
  dSeq (dAsg (dCall sp__law_begin (dCons (dVar 0) dNil)) (gN 1)) (rd_law_1 sp__law_begin sp__law_any_cond sp_write_cond sp__law_is_text sp__law_word sp_write)
end DL
namespace DL
open PySem PySem.Spec PyProof.Rows L2
def topS (i : Nat) : Stmt := PySem.Challenge.pw_leaveledger_k10_conds_written.main.body.getD i (.Pass ⟨0, 0, 0, 0⟩)
structure Blt (w : World) (K : PySem.W.Frag) (mg : Str → Option Value) : Prop where
  n_str : mg "str" = none
  n_enumerate : mg "enumerate" = none
  n_list : mg "list" = none
  n_abs : mg "abs" = none
  n_int : mg "int" = none
  n_len : mg "len" = none
  n_isinstance : mg "isinstance" = none
  n_bool : mg "bool" = none
  n_range : mg "range" = none
  n_all : mg "all" = none
  n_tuple : mg "tuple" = none
  k_SIGNS : DicS K w mg "SIGNS" ck_SIGNS
  k_NAME_LINES : TupG K mg "NAME_LINES" ck_NAME_LINES
abbrev s_test_tokens : Stmt := topS 3
theorem sc_test_tokens : FnScope ["tests", "found", "tag", "truth"] ["tests"] (defScope s_test_tokens) := ⟨rfl, rfl, rfl, by decide +kernel, rfl, by decide +kernel, by decide +kernel⟩
abbrev s_enclosed : Stmt := topS 4
theorem sc_enclosed : FnScope ["tokens", "level", "needed"] ["tokens", "level", "needed"] (defScope s_enclosed) := ⟨rfl, rfl, rfl, by decide +kernel, rfl, by decide +kernel, by decide +kernel⟩
abbrev s_table_tokens : Stmt := topS 6
theorem sc_table_tokens : FnScope ["walk", "found", "place", "move", "letter"] ["walk"] (defScope s_table_tokens) := ⟨rfl, rfl, rfl, by decide +kernel, rfl, by decide +kernel, by decide +kernel⟩
abbrev s_term_tokens : Stmt := topS 8
theorem sc_term_tokens : FnScope ["term", "front", "name"] ["term"] (defScope s_term_tokens) := ⟨rfl, rfl, rfl, by decide +kernel, rfl, by decide +kernel, by decide +kernel⟩
abbrev s_act_tokens : Stmt := topS 11
theorem sc_act_tokens : FnScope ["acts", "found", "act"] ["acts"] (defScope s_act_tokens) := ⟨rfl, rfl, rfl, by decide +kernel, rfl, by decide +kernel, by decide +kernel⟩
abbrev s__law_begin : Stmt := topS 17
theorem sc__law_begin : FnScope ["_law_script", "_law_cell"] ["_law_script"] (defScope s__law_begin) := ⟨rfl, rfl, rfl, by decide +kernel, rfl, by decide +kernel, by decide +kernel⟩
abbrev s__law_draw : Stmt := topS 18
theorem sc__law_draw : FnScope ["_law_d", "_law_many", "_law_found", "_law_size", "_law_cell"] ["_law_d", "_law_many"] (defScope s__law_draw) := ⟨rfl, rfl, rfl, by decide +kernel, rfl, by decide +kernel, by decide +kernel⟩
abbrev s__law_is_int : Stmt := topS 20
theorem sc__law_is_int : FnScope ["_law_thing"] ["_law_thing"] (defScope s__law_is_int) := ⟨rfl, rfl, rfl, by decide +kernel, rfl, by decide +kernel, by decide +kernel⟩
abbrev s__law_reserved : Stmt := topS 22
theorem sc__law_reserved : FnScope ["_law_text"] [] (defScope s__law_reserved) := ⟨rfl, rfl, rfl, by decide +kernel, rfl, by decide +kernel, by decide +kernel⟩
abbrev s__law_see : Stmt := topS 29
theorem sc__law_see : FnScope ["_law_c"] ["_law_c"] (defScope s__law_see) := ⟨rfl, rfl, rfl, by decide +kernel, rfl, by decide +kernel, by decide +kernel⟩
abbrev s__law_fold : Stmt := topS 33
theorem sc__law_fold : FnScope ["_law_values", "_law_waits", "_law_words", "_law_k", "_law_second", "_law_first"] ["_law_values", "_law_waits", "_law_words"] (defScope s__law_fold) := ⟨rfl, rfl, rfl, by decide +kernel, rfl, by decide +kernel, by decide +kernel⟩
abbrev s__law_partner : Stmt := topS 39
theorem sc__law_partner : FnScope ["_law_words", "_law_start", "_law_deep", "_law_k"] ["_law_words", "_law_start"] (defScope s__law_partner) := ⟨rfl, rfl, rfl, by decide +kernel, rfl, by decide +kernel, by decide +kernel⟩
abbrev s_atom_tokens : Stmt := topS 9
theorem sc_atom_tokens : FnScope ["cond", "word", "gap", "rest"] ["cond"] (defScope s_atom_tokens) := ⟨rfl, rfl, rfl, by decide +kernel, rfl, by decide +kernel, by decide +kernel⟩
abbrev s__law_pick : Stmt := topS 19
theorem sc__law_pick : FnScope ["_law_d", "_law_row"] ["_law_d", "_law_row"] (defScope s__law_pick) := ⟨rfl, rfl, rfl, by decide +kernel, rfl, by decide +kernel, by decide +kernel⟩
abbrev s__law_gap : Stmt := topS 21
theorem sc__law_gap : FnScope ["_law_d", "_law_way"] ["_law_d"] (defScope s__law_gap) := ⟨rfl, rfl, rfl, by decide +kernel, rfl, by decide +kernel, by decide +kernel⟩
abbrev s__law_good_name : Stmt := topS 28
theorem sc__law_good_name : FnScope ["_law_thing", "_law_sign"] ["_law_thing"] (defScope s__law_good_name) := ⟨rfl, rfl, rfl, by decide +kernel, rfl, by decide +kernel, by decide +kernel⟩
abbrev s__law_take : Stmt := topS 30
theorem sc__law_take : FnScope ["_law_c", "_law_word_here"] ["_law_c", "_law_word_here"] (defScope s__law_take) := ⟨rfl, rfl, rfl, by decide +kernel, rfl, by decide +kernel, by decide +kernel⟩
abbrev s__law_take_number : Stmt := topS 32
theorem sc__law_take_number : FnScope ["_law_c", "_law_low", "_law_high", "_law_word_here", "_law_good", "_law_sign"] ["_law_c", "_law_low", "_law_high"] (defScope s__law_take_number) := ⟨rfl, rfl, rfl, by decide +kernel, rfl, by decide +kernel, by decide +kernel⟩
abbrev s_walk_tokens : Stmt := topS 5
theorem sc_walk_tokens : FnScope ["walk", "needed", "word"] ["walk", "needed"] (defScope s_walk_tokens) := ⟨rfl, rfl, rfl, by decide +kernel, rfl, by decide +kernel, by decide +kernel⟩
abbrev s__law_word : Stmt := topS 23
theorem sc__law_word : FnScope ["_law_d", "_law_way", "_law_words", "_law_word_here", "_law_signs", "_law_k"] ["_law_d"] (defScope s__law_word) := ⟨rfl, rfl, rfl, by decide +kernel, rfl, by decide +kernel, by decide +kernel⟩
abbrev s__law_take_name : Stmt := topS 31
theorem sc__law_take_name : FnScope ["_law_c", "_law_word_here"] ["_law_c"] (defScope s__law_take_name) := ⟨rfl, rfl, rfl, by decide +kernel, rfl, by decide +kernel, by decide +kernel⟩
abbrev s_any_walk_tokens : Stmt := topS 7
theorem sc_any_walk_tokens : FnScope ["walk"] ["walk"] (defScope s_any_walk_tokens) := ⟨rfl, rfl, rfl, by decide +kernel, rfl, by decide +kernel, by decide +kernel⟩
abbrev s__law_side : Stmt := topS 24
theorem sc__law_side : FnScope ["_law_d", "_law_way"] ["_law_d"] (defScope s__law_side) := ⟨rfl, rfl, rfl, by decide +kernel, rfl, by decide +kernel, by decide +kernel⟩
abbrev s__law_take_side : Stmt := topS 34
theorem sc__law_take_side : FnScope ["_law_c", "_law_word_here"] ["_law_c"] (defScope s__law_take_side) := ⟨rfl, rfl, rfl, by decide +kernel, rfl, by decide +kernel, by decide +kernel⟩
abbrev s__law_fact : Stmt := topS 25
theorem sc__law_fact : FnScope ["_law_d", "_law_way"] ["_law_d"] (defScope s__law_fact) := ⟨rfl, rfl, rfl, by decide +kernel, rfl, by decide +kernel, by decide +kernel⟩
abbrev s__law_take_atmost : Stmt := topS 35
theorem sc__law_take_atmost : FnScope ["_law_c", "_law_left", "_law_right", "_law_sign", "_law_gap_here"] ["_law_c"] (defScope s__law_take_atmost) := ⟨rfl, rfl, rfl, by decide +kernel, rfl, by decide +kernel, by decide +kernel⟩
abbrev s__law_take_fact : Stmt := topS 36
theorem sc__law_take_fact : FnScope ["_law_c", "_law_word_here", "_law_name"] ["_law_c"] (defScope s__law_take_fact) := ⟨rfl, rfl, rfl, by decide +kernel, rfl, by decide +kernel, by decide +kernel⟩
abbrev s__law_take_cond : Stmt := topS 37
theorem sc__law_take_cond : FnScope ["_law_c", "_law_values", "_law_waits", "_law_ready", "_law_k", "_law_word_here", "_law_turn"] ["_law_c"] (defScope s__law_take_cond) := ⟨rfl, rfl, rfl, by decide +kernel, rfl, by decide +kernel, by decide +kernel⟩
abbrev s__law_whole : Stmt := topS 40
theorem sc__law_whole : FnScope ["_law_words", "_law_c", "_law_cond"] ["_law_words"] (defScope s__law_whole) := ⟨rfl, rfl, rfl, by decide +kernel, rfl, by decide +kernel, by decide +kernel⟩
abbrev s_cond_tokens : Stmt := topS 10
theorem sc_cond_tokens : FnScope ["cond", "needed", "word"] ["cond", "needed"] (defScope s_cond_tokens) := ⟨rfl, rfl, rfl, by decide +kernel, rfl, by decide +kernel, by decide +kernel⟩
abbrev s_policy_tokens : Stmt := topS 12
theorem sc_policy_tokens : FnScope ["line", "word", "name", "rank", "askers", "acts", "things", "cond", "duties", "front"] ["line"] (defScope s_policy_tokens) := ⟨rfl, rfl, rfl, by decide +kernel, rfl, by decide +kernel, by decide +kernel⟩
abbrev s_write_cond : Stmt := topS 15
theorem sc_write_cond : FnScope ["cond"] ["cond"] (defScope s_write_cond) := ⟨rfl, rfl, rfl, by decide +kernel, rfl, by decide +kernel, by decide +kernel⟩
abbrev s_line_tokens : Stmt := topS 13
theorem sc_line_tokens : FnScope ["line", "word"] ["line"] (defScope s_line_tokens) := ⟨rfl, rfl, rfl, by decide +kernel, rfl, by decide +kernel, by decide +kernel⟩
abbrev s_write : Stmt := topS 14
theorem sc_write : FnScope ["tree", "line"] ["tree"] (defScope s_write) := ⟨rfl, rfl, rfl, by decide +kernel, rfl, by decide +kernel, by decide +kernel⟩
abbrev s__law_given : Stmt := topS 26
theorem sc__law_given : FnScope ["_law_d", "_law_deep", "_law_room", "_law_tall", "_law_way", "_law_first", "_law_second", "_law_word_here"] ["_law_d", "_law_deep", "_law_room", "_law_tall"] (defScope s__law_given) := ⟨rfl, rfl, rfl, by decide +kernel, rfl, by decide +kernel, by decide +kernel⟩
abbrev s__law_same : Stmt := topS 38
theorem sc__law_same : FnScope ["_law_told", "_law_due", "_law_k"] ["_law_told", "_law_due"] (defScope s__law_same) := ⟨rfl, rfl, rfl, by decide +kernel, rfl, by decide +kernel, by decide +kernel⟩
abbrev s__law_any_cond : Stmt := topS 27
theorem sc__law_any_cond : FnScope ["_law_d", "_law_size"] ["_law_d", "_law_size"] (defScope s__law_any_cond) := ⟨rfl, rfl, rfl, by decide +kernel, rfl, by decide +kernel, by decide +kernel⟩
abbrev s__law_is_text : Stmt := topS 41
theorem sc__law_is_text : FnScope ["_law_cond", "_law_words", "_law_k", "_law_other"] ["_law_cond", "_law_words"] (defScope s__law_is_text) := ⟨rfl, rfl, rfl, by decide +kernel, rfl, by decide +kernel, by decide +kernel⟩
abbrev s_law : Stmt := topS 42
theorem sc_law : FnScope ["_law_script", "_law_d", "_law_first", "_law_second", "_law_cond", "_law_text", "_law_name"] ["_law_script"] (defScope s_law) := ⟨rfl, rfl, rfl, by decide +kernel, rfl, by decide +kernel, by decide +kernel⟩
section
variable {P : Program} {w : World} {K : PySem.W.Frag} {mg : Str → Option Value} {base : Heap}
theorem body_test_tokens (B : Blt w K mg) (f : Addr) (cdv : Value) (A : Around) (outer : List Env) (s : Shared) (H : Hp) (E : XK) (hr : RoomG 0 (A.deeper (envOfC "test_tokens" (defScope s_test_tokens) s.heap.objs.size f cdv))) :
    DSs (cxOf CX0 P w K mg base ["tests", "found", "tag", "truth"] "test_tokens" (defScope s_test_tokens) f cdv A outer s H E).nox (defBody s_test_tokens) (rd_test_tokens) := by
  have hu := hr.r.units
  have hu5 : (A.deeper (envOfC "test_tokens" (defScope s_test_tokens) s.heap.objs.size f cdv)).units + 65 < cLine := by have := hr.r.un; omega
  exact (dss_cons (ds_set 1 sc_test_tokens.nd rfl (by first | exact Or.inl rfl | exact Or.inr rfl) (de_lst (da_cons de_str da_nil)))
    (dss_cons (ds_for PassesOwn.never (by rfl) (di_seq (de_var 0)) (dg_tup (by rfl) (dgs_cons (dg_name 2 okAt0 sc_test_tokens.nd rfl (by first | exact Or.inl rfl | exact Or.inr rfl)) (dgs_cons (dg_name 3 okAt0 sc_test_tokens.nd rfl (by first | exact Or.inl rfl | exact Or.inr rfl)) dgs_nil))) (dss_one (ds_expr (de_lm PySem.F.slot_list_extend PySem.F.type_list_extend xm_extend (de_var 1) (da_cons (de_ifExp (dt_tru (de_var 3)) (de_lst (da_cons (de_var 2) da_nil)) (de_lst (da_cons de_str (da_cons (de_var 2) da_nil)))) da_nil)))))
    (dss_one (ds_ret (de_op od_add (de_var 1) (de_lst (da_cons de_str da_nil)))))))
theorem good_test_tokens {sp : P1} (T : TopF K mg "test_tokens" "test_tokens" s_test_tokens ["tests"]) (B : Blt w K mg) (len : ∀ ds h Q, sp ds h Q → ds.length = 1) (sat : ∀ ds h Q, sp ds h Q → rd_test_tokens (endN Q) (startD 4 ds) h) : Good P w K mg base 1 "test_tokens" ["tests"] sp :=
  good_ok T sc_test_tokens len (body_test_tokens B) sat
theorem body_enclosed (B : Blt w K mg) (f : Addr) (cdv : Value) (A : Around) (outer : List Env) (s : Shared) (H : Hp) (E : XK) (hr : RoomG 0 (A.deeper (envOfC "enclosed" (defScope s_enclosed) s.heap.objs.size f cdv))) :
    DSs (cxOf CX0 P w K mg base ["tokens", "level", "needed"] "enclosed" (defScope s_enclosed) f cdv A outer s H E).nox (defBody s_enclosed) (rd_enclosed) := by
  have hu := hr.r.units
  have hu5 : (A.deeper (envOfC "enclosed" (defScope s_enclosed) s.heap.objs.size f cdv)).units + 65 < cLine := by have := hr.r.un; omega
  exact (dss_one (ds_ret (de_ifExp (dt_cmpR od_ge (de_var 1) (de_var 2) (by rfl)) (de_var 0) (de_op od_add (de_op od_add (de_lst (da_cons de_str da_nil)) (de_var 0)) (de_lst (da_cons de_str da_nil))))))
theorem good_enclosed {sp : P1} (T : TopF K mg "enclosed" "enclosed" s_enclosed ["tokens", "level", "needed"]) (B : Blt w K mg) (len : ∀ ds h Q, sp ds h Q → ds.length = 3) (sat : ∀ ds h Q, sp ds h Q → rd_enclosed (endN Q) (startD 3 ds) h) : Good P w K mg base 1 "enclosed" ["tokens", "level", "needed"] sp :=
  good_ok T sc_enclosed len (body_enclosed B) sat
theorem body_table_tokens (B : Blt w K mg) (f : Addr) (cdv : Value) (A : Around) (outer : List Env) (s : Shared) (H : Hp) (E : XK) (hr : RoomG 0 (A.deeper (envOfC "table_tokens" (defScope s_table_tokens) s.heap.objs.size f cdv))) :
    DSs (cxOf CX0 P w K mg base ["walk", "found", "place", "move", "letter"] "table_tokens" (defScope s_table_tokens) f cdv A outer s H E).nox (defBody s_table_tokens) (rd_table_tokens) := by
  have hu := hr.r.units
  have hu5 : (A.deeper (envOfC "table_tokens" (defScope s_table_tokens) s.heap.objs.size f cdv)).units + 65 < cLine := by have := hr.r.un; omega
  exact (dss_cons (ds_set 1 sc_table_tokens.nd rfl (by first | exact Or.inl rfl | exact Or.inr rfl) (de_lst (da_cons de_str da_nil)))
    (dss_cons (ds_for PassesOwn.never (by rfl) (di_enum (by rfl) B.n_enumerate (da_cons (de_ix hu (de_var 0) de_int (fun _ _ => rfl)) da_nil)) (dg_tup (by rfl) (dgs_cons (dg_name 2 okAt0 sc_table_tokens.nd rfl (by first | exact Or.inl rfl | exact Or.inr rfl)) (dgs_cons (dg_name 3 okAt0 sc_table_tokens.nd rfl (by first | exact Or.inl rfl | exact Or.inr rfl)) dgs_nil))) (dss_cons (ds_if (dt_cmpR od_gt (de_var 2) de_int (by rfl)) (dss_one (ds_expr (de_lm PySem.F.slot_list_append PySem.F.type_list_append xm_append (de_var 1) (da_cons de_str da_nil)))) dss_nil)
    (dss_cons (ds_set 4 sc_table_tokens.nd rfl (by first | exact Or.inl rfl | exact Or.inr rfl) (de_ix hu (de_var 3) de_int (fun _ _ => rfl)))
    (dss_one (ds_expr (de_lm PySem.F.slot_list_extend PySem.F.type_list_extend xm_extend (de_var 1) (da_cons (de_op od_add (de_op od_add (de_lst (da_cons (de_callTy xd_str (by rfl) B.n_str (by decide +kernel) (da_cons (de_ix hu (de_var 3) de_int (fun _ _ => rfl)) da_nil)) (da_cons (de_ix hu (de_var 4) de_int (fun _ _ => rfl)) (da_cons (de_ix hu (de_var 4) de_int (fun _ _ => rfl)) (da_cons de_str da_nil))))) (de_callTy xd_list (by rfl) B.n_list (by decide +kernel) (da_cons (de_ix hu (de_var 4) de_int (fun _ _ => rfl)) da_nil))) (de_lst (da_cons de_str (da_cons (de_callTy xd_str (by rfl) B.n_str (by decide +kernel) (da_cons (de_ix hu (de_var 3) de_int (fun _ _ => rfl)) da_nil)) da_nil)))) da_nil)))))))
    (dss_one (ds_ret (de_op od_add (de_var 1) (de_lst (da_cons de_str (da_cons (de_ifExp (dt_cmpR od_is (de_ix hu (de_var 0) de_int (fun _ _ => rfl)) de_non (by rfl)) de_str (de_callTy xd_str (by rfl) B.n_str (by decide +kernel) (da_cons (de_ix hu (de_var 0) de_int (fun _ _ => rfl)) da_nil))) da_nil))))))))
theorem good_table_tokens {sp : P1} (T : TopF K mg "table_tokens" "table_tokens" s_table_tokens ["walk"]) (B : Blt w K mg) (len : ∀ ds h Q, sp ds h Q → ds.length = 1) (sat : ∀ ds h Q, sp ds h Q → rd_table_tokens (endN Q) (startD 5 ds) h) : Good P w K mg base 1 "table_tokens" ["walk"] sp :=
  good_ok T sc_table_tokens len (body_table_tokens B) sat
theorem body_term_tokens (B : Blt w K mg) (f : Addr) (cdv : Value) (A : Around) (outer : List Env) (s : Shared) (H : Hp) (E : XK) (hr : RoomG 0 (A.deeper (envOfC "term_tokens" (defScope s_term_tokens) s.heap.objs.size f cdv))) :
    DSs (cxOf CX0 P w K mg base ["term", "front", "name"] "term_tokens" (defScope s_term_tokens) f cdv A outer s H E).nox (defBody s_term_tokens) (rd_term_tokens) := by
  have hu := hr.r.units
  have hu5 : (A.deeper (envOfC "term_tokens" (defScope s_term_tokens) s.heap.objs.size f cdv)).units + 65 < cLine := by have := hr.r.un; omega
  exact (dss_cons (ds_if (dt_cmpR (od_notIn hu5) de_str (de_var 0) (by rfl)) (dss_one (ds_ret (de_lst (da_cons (de_var 0) da_nil)))) dss_nil)
    (dss_cons (ds_asg (de_split (de_var 0) de_str) (dg_unl (by rfl) (dgs_cons (dg_name 1 okAt0 sc_term_tokens.nd rfl (by first | exact Or.inl rfl | exact Or.inr rfl)) (dgs_cons (dg_name 2 okAt0 sc_term_tokens.nd rfl (by first | exact Or.inl rfl | exact Or.inr rfl)) dgs_nil))))
    (dss_one (ds_ret (de_lst (da_cons (de_var 1) (da_cons de_str (da_cons (de_var 2) da_nil))))))))
theorem good_term_tokens {sp : P1} (T : TopF K mg "term_tokens" "term_tokens" s_term_tokens ["term"]) (B : Blt w K mg) (len : ∀ ds h Q, sp ds h Q → ds.length = 1) (sat : ∀ ds h Q, sp ds h Q → rd_term_tokens (endN Q) (startD 3 ds) h) : Good P w K mg base 1 "term_tokens" ["term"] sp :=
  good_ok T sc_term_tokens len (body_term_tokens B) sat
theorem body_act_tokens (B : Blt w K mg) (f : Addr) (cdv : Value) (A : Around) (outer : List Env) (s : Shared) (H : Hp) (E : XK) (hr : RoomG 0 (A.deeper (envOfC "act_tokens" (defScope s_act_tokens) s.heap.objs.size f cdv))) :
    DSs (cxOf CX0 P w K mg base ["acts", "found", "act"] "act_tokens" (defScope s_act_tokens) f cdv A outer s H E).nox (defBody s_act_tokens) (rd_act_tokens) := by
  have hu := hr.r.units
  have hu5 : (A.deeper (envOfC "act_tokens" (defScope s_act_tokens) s.heap.objs.size f cdv)).units + 65 < cLine := by have := hr.r.un; omega
  exact (dss_cons (ds_set 1 sc_act_tokens.nd rfl (by first | exact Or.inl rfl | exact Or.inr rfl) (de_lst da_nil))
    (dss_cons (ds_for PassesOwn.never (by rfl) (di_seq (de_var 0)) (dg_name 2 okAt0 sc_act_tokens.nd rfl (by first | exact Or.inl rfl | exact Or.inr rfl)) (dss_one (ds_expr (de_lm PySem.F.slot_list_extend PySem.F.type_list_extend xm_extend (de_var 1) (da_cons (de_ifExp (dt_cmpR (od_eq hu) (de_ix hu (de_var 2) de_int (fun _ _ => rfl)) de_str (by rfl)) (de_lst (da_cons de_str (da_cons (de_slice (de_var 2) (do_some de_int) do_none) da_nil))) (de_lst (da_cons (de_var 2) da_nil))) da_nil)))))
    (dss_one (ds_ret (de_var 1)))))
theorem good_act_tokens {sp : P1} (T : TopF K mg "act_tokens" "act_tokens" s_act_tokens ["acts"]) (B : Blt w K mg) (len : ∀ ds h Q, sp ds h Q → ds.length = 1) (sat : ∀ ds h Q, sp ds h Q → rd_act_tokens (endN Q) (startD 3 ds) h) : Good P w K mg base 1 "act_tokens" ["acts"] sp :=
  good_ok T sc_act_tokens len (body_act_tokens B) sat
theorem body__law_begin (B : Blt w K mg) (f : Addr) (cdv : Value) (A : Around) (outer : List Env) (s : Shared) (H : Hp) (E : XK) (hr : RoomG 0 (A.deeper (envOfC "_law_begin" (defScope s__law_begin) s.heap.objs.size f cdv))) :
    DSs (cxOf CX0 P w K mg base ["_law_script", "_law_cell"] "_law_begin" (defScope s__law_begin) f cdv A outer s H E).nox (defBody s__law_begin) (rd__law_begin) := by
  have hu := hr.r.units
  have hu5 : (A.deeper (envOfC "_law_begin" (defScope s__law_begin) s.heap.objs.size f cdv)).units + 65 < cLine := by have := hr.r.un; omega
  exact (dss_one (ds_ret (de_lst (da_cons (de_lc (own := [("_law_cell", 1)]) (by rfl) sc__law_begin.nd (di_seq (de_var 0)) (blkOk_by (own := [("_law_cell", 1)]) (N := ["_law_script", "_law_cell"]) (sc := defScope s__law_begin) (by decide +kernel)) (fun _ _ _ _ _ => (dg_name 1 (okAtW (by decide)) sc__law_begin.nd rfl (by first | exact Or.inl rfl | exact Or.inr rfl))) (fun _ _ _ _ _ => dts_nil) (fun _ _ _ _ _ => (de_callTy xd_int (by rfl) B.n_int (by decide +kernel) (da_cons (de_var 1) da_nil)))) (da_cons de_int (da_cons de_int (da_cons de_int (da_cons de_int da_nil))))))))
theorem good__law_begin {sp : P1} (T : TopF K mg "_law_begin" "_law_begin" s__law_begin ["_law_script"]) (B : Blt w K mg) (len : ∀ ds h Q, sp ds h Q → ds.length = 1) (sat : ∀ ds h Q, sp ds h Q → rd__law_begin (endN Q) (startD 2 ds) h) : Good P w K mg base 1 "_law_begin" ["_law_script"] sp :=
  good_ok T sc__law_begin len (body__law_begin B) sat
theorem body__law_draw (B : Blt w K mg) (f : Addr) (cdv : Value) (A : Around) (outer : List Env) (s : Shared) (H : Hp) (E : XK) (hr : RoomG 0 (A.deeper (envOfC "_law_draw" (defScope s__law_draw) s.heap.objs.size f cdv))) :
    DSs (cxOf CX0 P w K mg base ["_law_d", "_law_many", "_law_found", "_law_size", "_law_cell"] "_law_draw" (defScope s__law_draw) f cdv A outer s H E).nox (defBody s__law_draw) (rd__law_draw) := by
  have hu := hr.r.units
  have hu5 : (A.deeper (envOfC "_law_draw" (defScope s__law_draw) s.heap.objs.size f cdv)).units + 65 < cLine := by have := hr.r.un; omega
  exact (dss_cons (ds_if (dt_cmpR od_gt (de_ix hu (de_var 0) de_int (fun _ _ => rfl)) de_int (by rfl)) (dss_cons (ds_set 2 sc__law_draw.nd rfl (by first | exact Or.inl rfl | exact Or.inr rfl) (de_ix hu (de_var 0) de_int (fun _ _ => rfl)))
    (dss_cons (ds_asg (de_op od_fdiv (de_var 2) (de_var 1)) (dg_sub hu (de_var 0) de_int))
    (dss_one (ds_ret (de_op od_mod (de_callTy xd_int (by rfl) B.n_int (by decide +kernel) (da_cons (de_var 2) da_nil)) (de_var 1)))))) dss_nil)
    (dss_cons (ds_set 3 sc__law_draw.nd rfl (by first | exact Or.inl rfl | exact Or.inr rfl) de_int)
    (dss_cons (ds_if (dt_cmpR od_lt (de_ix hu (de_var 0) de_int (fun _ _ => rfl)) (de_callB xd_len (by rfl) B.n_len (by decide +kernel) (da_cons (de_ix hu (de_var 0) de_int (fun _ _ => rfl)) da_nil)) (by rfl)) (dss_cons (ds_set 4 sc__law_draw.nd rfl (by first | exact Or.inl rfl | exact Or.inr rfl) (de_ix hu (de_ix hu (de_var 0) de_int (fun _ _ => rfl)) (de_ix hu (de_var 0) de_int (fun _ _ => rfl)) (fun _ _ => rfl)))
    (dss_one (ds_set 3 sc__law_draw.nd rfl (by first | exact Or.inl rfl | exact Or.inr rfl) (de_op od_add (de_op od_mul de_int (de_callB xd_abs (by rfl) B.n_abs (by decide +kernel) (da_cons (de_var 4) da_nil))) (de_callTy xd_int (by rfl) B.n_int (by decide +kernel) (da_cons (de_cmpR od_lt (de_var 4) de_int (by rfl)) da_nil)))))) dss_nil)
    (dss_cons (ds_augS hu (de_var 0) de_int de_int xd_iadd)
    (dss_cons (ds_if (dt_cmpR od_ge (de_var 3) (de_op od_mul de_int (de_op od_pow de_int de_int)) (by rfl)) (dss_cons (ds_set 2 sc__law_draw.nd rfl (by first | exact Or.inl rfl | exact Or.inr rfl) (de_op od_mod (de_callTy xd_int (by rfl) B.n_int (by decide +kernel) (da_cons (de_op od_fdiv (de_var 3) de_int) da_nil)) (de_op od_shl de_int de_int)))
    (dss_cons (ds_asg (de_op od_fdiv (de_var 2) (de_var 1)) (dg_sub hu (de_var 0) de_int))
    (dss_one (ds_ret (de_op od_mod (de_callTy xd_int (by rfl) B.n_int (by decide +kernel) (da_cons (de_var 2) da_nil)) (de_var 1)))))) dss_nil)
    (dss_cons (ds_asg (de_op od_mod (de_callTy xd_int (by rfl) B.n_int (by decide +kernel) (da_cons (de_op od_add (de_op od_add (de_op od_add (de_op od_mul (de_ix hu (de_var 0) de_int (fun _ _ => rfl)) de_int) (de_op od_mul (de_op od_mod (de_callTy xd_int (by rfl) B.n_int (by decide +kernel) (da_cons (de_var 3) da_nil)) de_int) de_int)) (de_op od_mul (de_ix hu (de_var 0) de_int (fun _ _ => rfl)) de_int)) de_int) da_nil)) de_int) (dg_sub hu (de_var 0) de_int))
    (dss_one (ds_ret (de_op od_mod (de_callTy xd_int (by rfl) B.n_int (by decide +kernel) (da_cons (de_op od_fdiv (de_ix hu (de_var 0) de_int (fun _ _ => rfl)) de_int) da_nil)) (de_var 1))))))))))
theorem good__law_draw {sp : P1} (T : TopF K mg "_law_draw" "_law_draw" s__law_draw ["_law_d", "_law_many"]) (B : Blt w K mg) (len : ∀ ds h Q, sp ds h Q → ds.length = 2) (sat : ∀ ds h Q, sp ds h Q → rd__law_draw (endN Q) (startD 5 ds) h) : Good P w K mg base 1 "_law_draw" ["_law_d", "_law_many"] sp :=
  good_ok T sc__law_draw len (body__law_draw B) sat
theorem body__law_is_int (B : Blt w K mg) (f : Addr) (cdv : Value) (A : Around) (outer : List Env) (s : Shared) (H : Hp) (E : XK) (hr : RoomG 0 (A.deeper (envOfC "_law_is_int" (defScope s__law_is_int) s.heap.objs.size f cdv))) :
    DSs (cxOf CX0 P w K mg base ["_law_thing"] "_law_is_int" (defScope s__law_is_int) f cdv A outer s H E).nox (defBody s__law_is_int) (rd__law_is_int) := by
  have hu := hr.r.units
  have hu5 : (A.deeper (envOfC "_law_is_int" (defScope s__law_is_int) s.heap.objs.size f cdv)).units + 65 < cLine := by have := hr.r.un; omega
  exact (dss_one (ds_ret (de_and (de_callB xd_isi (by rfl) B.n_isinstance (by decide +kernel) (da_cons (de_var 0) (da_cons (de_ty (T := "int") (by rfl) B.n_int (by decide +kernel)) da_nil))) (de_one (de_not (de_callB xd_isi (by rfl) B.n_isinstance (by decide +kernel) (da_cons (de_var 0) (da_cons (de_ty (T := "bool") (by rfl) B.n_bool (by decide +kernel)) da_nil))))))))
theorem good__law_is_int {sp : P1} (T : TopF K mg "_law_is_int" "_law_is_int" s__law_is_int ["_law_thing"]) (B : Blt w K mg) (len : ∀ ds h Q, sp ds h Q → ds.length = 1) (sat : ∀ ds h Q, sp ds h Q → rd__law_is_int (endN Q) (startD 1 ds) h) : Good P w K mg base 1 "_law_is_int" ["_law_thing"] sp :=
  good_ok T sc__law_is_int len (body__law_is_int B) sat
theorem body__law_reserved (B : Blt w K mg) (f : Addr) (cdv : Value) (A : Around) (outer : List Env) (s : Shared) (H : Hp) (E : XK) (hr : RoomG 0 (A.deeper (envOfC "_law_reserved" (defScope s__law_reserved) s.heap.objs.size f cdv))) :
    DSs (cxOf CX0 P w K mg base ["_law_text"] "_law_reserved" (defScope s__law_reserved) f cdv A outer s H E).nox (defBody s__law_reserved) (rd__law_reserved) := by
  have hu := hr.r.units
  have hu5 : (A.deeper (envOfC "_law_reserved" (defScope s__law_reserved) s.heap.objs.size f cdv)).units + 65 < cLine := by have := hr.r.un; omega
  exact (dss_cons (ds_set 0 sc__law_reserved.nd rfl (by first | exact Or.inl rfl | exact Or.inr rfl) de_str)
    (dss_one (ds_ret (de_split (de_op od_add (de_var 0) de_str) de_str))))
theorem good__law_reserved {sp : P1} (T : TopF K mg "_law_reserved" "_law_reserved" s__law_reserved []) (B : Blt w K mg) (len : ∀ ds h Q, sp ds h Q → ds.length = 0) (sat : ∀ ds h Q, sp ds h Q → rd__law_reserved (endN Q) (startD 1 ds) h) : Good P w K mg base 1 "_law_reserved" [] sp :=
  good_ok T sc__law_reserved len (body__law_reserved B) sat
theorem body__law_see (B : Blt w K mg) (f : Addr) (cdv : Value) (A : Around) (outer : List Env) (s : Shared) (H : Hp) (E : XK) (hr : RoomG 0 (A.deeper (envOfC "_law_see" (defScope s__law_see) s.heap.objs.size f cdv))) :
    DSs (cxOf CX0 P w K mg base ["_law_c"] "_law_see" (defScope s__law_see) f cdv A outer s H E).nox (defBody s__law_see) (rd__law_see) := by
  have hu := hr.r.units
  have hu5 : (A.deeper (envOfC "_law_see" (defScope s__law_see) s.heap.objs.size f cdv)).units + 65 < cLine := by have := hr.r.un; omega
  exact (dss_one (ds_ret (de_ifExp (dt_cmpR od_lt (de_ix hu (de_var 0) de_int (fun _ _ => rfl)) (de_callB xd_len (by rfl) B.n_len (by decide +kernel) (da_cons (de_ix hu (de_var 0) de_int (fun _ _ => rfl)) da_nil)) (by rfl)) (de_ix hu (de_ix hu (de_var 0) de_int (fun _ _ => rfl)) (de_ix hu (de_var 0) de_int (fun _ _ => rfl)) (fun _ _ => rfl)) de_str)))
theorem good__law_see {sp : P1} (T : TopF K mg "_law_see" "_law_see" s__law_see ["_law_c"]) (B : Blt w K mg) (len : ∀ ds h Q, sp ds h Q → ds.length = 1) (sat : ∀ ds h Q, sp ds h Q → rd__law_see (endN Q) (startD 1 ds) h) : Good P w K mg base 1 "_law_see" ["_law_c"] sp :=
  good_ok T sc__law_see len (body__law_see B) sat
theorem body__law_fold (B : Blt w K mg) (f : Addr) (cdv : Value) (A : Around) (outer : List Env) (s : Shared) (H : Hp) (E : XK) (hr : RoomG 0 (A.deeper (envOfC "_law_fold" (defScope s__law_fold) s.heap.objs.size f cdv))) :
    DSs (cxOf CX0 P w K mg base ["_law_values", "_law_waits", "_law_words", "_law_k", "_law_second", "_law_first"] "_law_fold" (defScope s__law_fold) f cdv A outer s H E).nox (defBody s__law_fold) (rd__law_fold) := by
  have hu := hr.r.units
  have hu5 : (A.deeper (envOfC "_law_fold" (defScope s__law_fold) s.heap.objs.size f cdv)).units + 65 < cLine := by have := hr.r.un; omega
  exact (dss_one (ds_for PassesOwn.never (by rfl) (di_range1 (by rfl) B.n_range (da_cons (de_callB xd_len (by rfl) B.n_len (by decide +kernel) (da_cons (de_var 1) da_nil)) da_nil)) (dg_name 3 okAt0 sc__law_fold.nd rfl (by first | exact Or.inl rfl | exact Or.inr rfl)) (dss_cons (ds_if (dt_w (dw_or (dt_cmpR (od_eq hu) (de_callB xd_len (by rfl) B.n_len (by decide +kernel) (da_cons (de_var 1) da_nil)) de_int (by rfl)) (dw_or1 (dt_cmpR (od_notIn hu5) (de_ix hu (de_var 1) (de_neg de_int) (fun _ _ => rfl)) (de_var 2) (by rfl))))) (dss_one ds_retN) dss_nil)
    (dss_cons (ds_set 4 sc__law_fold.nd rfl (by first | exact Or.inl rfl | exact Or.inr rfl) (de_lm0 PySem.F.slot_list_pop PySem.F.type_list_pop xm_pop (de_var 0)))
    (dss_cons (ds_set 5 sc__law_fold.nd rfl (by first | exact Or.inl rfl | exact Or.inr rfl) (de_lm0 PySem.F.slot_list_pop PySem.F.type_list_pop xm_pop (de_var 0)))
    (dss_one (ds_expr (de_lm PySem.F.slot_list_append PySem.F.type_list_append xm_append (de_var 0) (da_cons (de_tup (da_cons (de_lm0 PySem.F.slot_list_pop PySem.F.type_list_pop xm_pop (de_var 1)) (da_cons (de_var 5) (da_cons (de_var 4) da_nil)))) da_nil)))))))))
theorem good__law_fold {sp : P1} (T : TopF K mg "_law_fold" "_law_fold" s__law_fold ["_law_values", "_law_waits", "_law_words"]) (B : Blt w K mg) (len : ∀ ds h Q, sp ds h Q → ds.length = 3) (sat : ∀ ds h Q, sp ds h Q → rd__law_fold (endN Q) (startD 6 ds) h) : Good P w K mg base 1 "_law_fold" ["_law_values", "_law_waits", "_law_words"] sp :=
  good_ok T sc__law_fold len (body__law_fold B) sat
theorem body__law_partner (B : Blt w K mg) (f : Addr) (cdv : Value) (A : Around) (outer : List Env) (s : Shared) (H : Hp) (E : XK) (hr : RoomG 0 (A.deeper (envOfC "_law_partner" (defScope s__law_partner) s.heap.objs.size f cdv))) :
    DSs (cxOf CX0 P w K mg base ["_law_words", "_law_start", "_law_deep", "_law_k"] "_law_partner" (defScope s__law_partner) f cdv A outer s H E).nox (defBody s__law_partner) (rd__law_partner) := by
  have hu := hr.r.units
  have hu5 : (A.deeper (envOfC "_law_partner" (defScope s__law_partner) s.heap.objs.size f cdv)).units + 65 < cLine := by have := hr.r.un; omega
  exact (dss_cons (ds_set 2 sc__law_partner.nd rfl (by first | exact Or.inl rfl | exact Or.inr rfl) de_int)
    (dss_cons (ds_for PassesOwn.never (by rfl) (di_range2 (by rfl) B.n_range (da_cons (de_var 1) (da_cons (de_callB xd_len (by rfl) B.n_len (by decide +kernel) (da_cons (de_var 0) da_nil)) da_nil))) (dg_name 3 okAt0 sc__law_partner.nd rfl (by first | exact Or.inl rfl | exact Or.inr rfl)) (dss_cons (ds_set 2 sc__law_partner.nd rfl (by first | exact Or.inl rfl | exact Or.inr rfl) (de_op od_sub (de_op od_add (de_var 2) (de_callTy xd_int (by rfl) B.n_int (by decide +kernel) (da_cons (de_cmpR (od_eq hu) (de_ix hu (de_var 0) (de_var 3) (fun _ _ => rfl)) de_str (by rfl)) da_nil))) (de_callTy xd_int (by rfl) B.n_int (by decide +kernel) (da_cons (de_cmpR (od_eq hu) (de_ix hu (de_var 0) (de_var 3) (fun _ _ => rfl)) de_str (by rfl)) da_nil))))
    (dss_one (ds_if (dt_cmpR (od_eq hu) (de_var 2) de_int (by rfl)) (dss_one (ds_ret (de_var 3))) dss_nil))))
    (dss_one (ds_ret (de_var 1)))))
theorem good__law_partner {sp : P1} (T : TopF K mg "_law_partner" "_law_partner" s__law_partner ["_law_words", "_law_start"]) (B : Blt w K mg) (len : ∀ ds h Q, sp ds h Q → ds.length = 2) (sat : ∀ ds h Q, sp ds h Q → rd__law_partner (endN Q) (startD 4 ds) h) : Good P w K mg base 1 "_law_partner" ["_law_words", "_law_start"] sp :=
  good_ok T sc__law_partner len (body__law_partner B) sat
theorem body_atom_tokens {sp_term_tokens : P1} (B : Blt w K mg) (G_term_tokens : Good P w K mg base 1 "term_tokens" ["term"] sp_term_tokens) (f : Addr) (cdv : Value) (A : Around) (outer : List Env) (s : Shared) (H : Hp) (E : XK) (hr : RoomG 1 (A.deeper (envOfC "atom_tokens" (defScope s_atom_tokens) s.heap.objs.size f cdv))) :
    DSs (cxOf CX0 P w K mg base ["cond", "word", "gap", "rest"] "atom_tokens" (defScope s_atom_tokens) f cdv A outer s H E).nox (defBody s_atom_tokens) (rd_atom_tokens sp_term_tokens) := by
  have hu := hr.r.units
  have hu5 : (A.deeper (envOfC "atom_tokens" (defScope s_atom_tokens) s.heap.objs.size f cdv)).units + 65 < cLine := by have := hr.r.un; omega
  exact (dss_cons (ds_set 1 sc_atom_tokens.nd rfl (by first | exact Or.inl rfl | exact Or.inr rfl) (de_ix hu (de_var 0) de_int (fun _ _ => rfl)))
    (dss_cons (ds_if (dt_cmpR (od_eq hu) (de_var 1) de_str (by rfl)) (dss_one (ds_ret (de_lst (da_cons de_str da_nil)))) dss_nil)
    (dss_cons (ds_if (dt_cmpR (od_eq hu) (de_var 1) de_str (by rfl)) (dss_one (ds_ret (de_lst (da_cons de_str (da_cons (de_ix hu (de_var 0) de_int (fun _ _ => rfl)) da_nil))))) dss_nil)
    (dss_cons (ds_if (dt_cmpR (od_eq hu) (de_var 1) de_str (by rfl)) (dss_one (ds_ret (de_lst (da_cons de_str (da_cons de_str (da_cons (de_ix hu (de_var 0) de_int (fun _ _ => rfl)) da_nil)))))) dss_nil)
    (dss_cons (ds_if (dt_cmpR (od_eq hu) (de_var 1) de_str (by rfl)) (dss_one (ds_ret (de_lst (da_cons (de_ix hu (de_var 0) de_int (fun _ _ => rfl)) (da_cons de_str (da_cons (de_ix hu (de_var 0) de_int (fun _ _ => rfl)) da_nil)))))) dss_nil)
    (dss_cons (ds_if (dt_cmpR (od_eq hu) (de_var 1) de_str (by rfl)) (dss_one (ds_ret (de_lst (da_cons de_str (da_cons (de_ix hu (de_var 0) de_int (fun _ _ => rfl)) (da_cons de_str (da_cons (de_ix hu (de_var 0) de_int (fun _ _ => rfl)) da_nil))))))) dss_nil)
    (dss_cons (ds_set 2 sc_atom_tokens.nd rfl (by first | exact Or.inl rfl | exact Or.inr rfl) (de_ix hu (de_var 0) de_int (fun _ _ => rfl)))
    (dss_cons (ds_set 3 sc_atom_tokens.nd rfl (by first | exact Or.inl rfl | exact Or.inr rfl) (de_ifExp (dt_cmpR (od_eq hu) (de_var 2) de_int (by rfl)) (de_lst da_nil) (de_lst (da_cons (de_ifExp (dt_cmpR od_gt (de_var 2) de_int (by rfl)) de_str de_str) (da_cons (de_callTy xd_str (by rfl) B.n_str (by decide +kernel) (da_cons (de_callB xd_abs (by rfl) B.n_abs (by decide +kernel) (da_cons (de_var 2) da_nil)) da_nil)) da_nil)))))
    (dss_one (ds_ret (de_op od_add (de_op od_add (de_op od_add (de_callG G_term_tokens hr (by omega) (by rfl) (da_cons (de_ix hu (de_var 0) de_int (fun _ _ => rfl)) da_nil)) (de_lst (da_cons de_str da_nil))) (de_callG G_term_tokens hr (by omega) (by rfl) (da_cons (de_ix hu (de_var 0) de_int (fun _ _ => rfl)) da_nil))) (de_var 3))))))))))))
theorem good_atom_tokens {sp : P1} {sp_term_tokens : P1} (T : TopF K mg "atom_tokens" "atom_tokens" s_atom_tokens ["cond"]) (B : Blt w K mg) (G_term_tokens : Good P w K mg base 1 "term_tokens" ["term"] sp_term_tokens) (len : ∀ ds h Q, sp ds h Q → ds.length = 1) (sat : ∀ ds h Q, sp ds h Q → rd_atom_tokens sp_term_tokens (endN Q) (startD 4 ds) h) : Good P w K mg base 2 "atom_tokens" ["cond"] sp :=
  good_ok T sc_atom_tokens len (body_atom_tokens B G_term_tokens) sat
theorem body__law_pick {sp__law_draw : P1} (B : Blt w K mg) (G__law_draw : Good P w K mg base 1 "_law_draw" ["_law_d", "_law_many"] sp__law_draw) (f : Addr) (cdv : Value) (A : Around) (outer : List Env) (s : Shared) (H : Hp) (E : XK) (hr : RoomG 1 (A.deeper (envOfC "_law_pick" (defScope s__law_pick) s.heap.objs.size f cdv))) :
    DSs (cxOf CX0 P w K mg base ["_law_d", "_law_row"] "_law_pick" (defScope s__law_pick) f cdv A outer s H E).nox (defBody s__law_pick) (rd__law_pick sp__law_draw) := by
  have hu := hr.r.units
  have hu5 : (A.deeper (envOfC "_law_pick" (defScope s__law_pick) s.heap.objs.size f cdv)).units + 65 < cLine := by have := hr.r.un; omega
  exact (dss_one (ds_ret (de_ix hu (de_var 1) (de_callG G__law_draw hr (by omega) (by rfl) (da_cons (de_var 0) (da_cons (de_callB xd_len (by rfl) B.n_len (by decide +kernel) (da_cons (de_var 1) da_nil)) da_nil))) (fun _ _ => rfl))))
theorem good__law_pick {sp : P1} {sp__law_draw : P1} (T : TopF K mg "_law_pick" "_law_pick" s__law_pick ["_law_d", "_law_row"]) (B : Blt w K mg) (G__law_draw : Good P w K mg base 1 "_law_draw" ["_law_d", "_law_many"] sp__law_draw) (len : ∀ ds h Q, sp ds h Q → ds.length = 2) (sat : ∀ ds h Q, sp ds h Q → rd__law_pick sp__law_draw (endN Q) (startD 2 ds) h) : Good P w K mg base 2 "_law_pick" ["_law_d", "_law_row"] sp :=
  good_ok T sc__law_pick len (body__law_pick B G__law_draw) sat
theorem body__law_gap {sp__law_draw : P1} (B : Blt w K mg) (G__law_draw : Good P w K mg base 1 "_law_draw" ["_law_d", "_law_many"] sp__law_draw) (f : Addr) (cdv : Value) (A : Around) (outer : List Env) (s : Shared) (H : Hp) (E : XK) (hr : RoomG 1 (A.deeper (envOfC "_law_gap" (defScope s__law_gap) s.heap.objs.size f cdv))) :
    DSs (cxOf CX0 P w K mg base ["_law_d", "_law_way"] "_law_gap" (defScope s__law_gap) f cdv A outer s H E).nox (defBody s__law_gap) (rd__law_gap sp__law_draw) := by
  have hu := hr.r.units
  have hu5 : (A.deeper (envOfC "_law_gap" (defScope s__law_gap) s.heap.objs.size f cdv)).units + 65 < cLine := by have := hr.r.un; omega
  exact (dss_cons (ds_set 1 sc__law_gap.nd rfl (by first | exact Or.inl rfl | exact Or.inr rfl) (de_callG G__law_draw hr (by omega) (by rfl) (da_cons (de_var 0) (da_cons de_int da_nil))))
    (dss_cons (ds_if (dt_cmpR od_lt (de_var 1) de_int (by rfl)) (dss_one (ds_ret (de_op od_sub (de_callG G__law_draw hr (by omega) (by rfl) (da_cons (de_var 0) (da_cons de_int da_nil))) de_int))) dss_nil)
    (dss_cons (ds_if (dt_cmpR (od_eq hu) (de_var 1) de_int (by rfl)) (dss_one (ds_ret (de_op od_sub de_int (de_callG G__law_draw hr (by omega) (by rfl) (da_cons (de_var 0) (da_cons de_int da_nil)))))) dss_nil)
    (dss_cons (ds_if (dt_cmpR (od_eq hu) (de_var 1) de_int (by rfl)) (dss_one (ds_ret (de_op od_sub (de_callG G__law_draw hr (by omega) (by rfl) (da_cons (de_var 0) (da_cons de_int da_nil))) de_int))) dss_nil)
    (dss_one (ds_ret (de_op od_sub (de_callG G__law_draw hr (by omega) (by rfl) (da_cons (de_var 0) (da_cons de_int da_nil))) de_int)))))))
theorem good__law_gap {sp : P1} {sp__law_draw : P1} (T : TopF K mg "_law_gap" "_law_gap" s__law_gap ["_law_d"]) (B : Blt w K mg) (G__law_draw : Good P w K mg base 1 "_law_draw" ["_law_d", "_law_many"] sp__law_draw) (len : ∀ ds h Q, sp ds h Q → ds.length = 1) (sat : ∀ ds h Q, sp ds h Q → rd__law_gap sp__law_draw (endN Q) (startD 2 ds) h) : Good P w K mg base 2 "_law_gap" ["_law_d"] sp :=
  good_ok T sc__law_gap len (body__law_gap B G__law_draw) sat
theorem body__law_good_name {sp__law_reserved : P1} (B : Blt w K mg) (G__law_reserved : Good P w K mg base 1 "_law_reserved" [] sp__law_reserved) (f : Addr) (cdv : Value) (A : Around) (outer : List Env) (s : Shared) (H : Hp) (E : XK) (hr : RoomG 1 (A.deeper (envOfC "_law_good_name" (defScope s__law_good_name) s.heap.objs.size f cdv))) :
    DSs (cxOf CX0 P w K mg base ["_law_thing", "_law_sign"] "_law_good_name" (defScope s__law_good_name) f cdv A outer s H E).nox (defBody s__law_good_name) (rd__law_good_name sp__law_reserved) := by
  have hu := hr.r.units
  have hu5 : (A.deeper (envOfC "_law_good_name" (defScope s__law_good_name) s.heap.objs.size f cdv)).units + 65 < cLine := by have := hr.r.un; omega
  exact (dss_cons (ds_if (dt_w (dw_or (dt_not (dt_tru (de_callB xd_isi (by rfl) B.n_isinstance (by decide +kernel) (da_cons (de_var 0) (da_cons (de_ty (T := "str") (by rfl) B.n_str (by decide +kernel)) da_nil))))) (dw_or (dt_not (dt_chain od_le od_le de_int (de_callB xd_len (by rfl) B.n_len (by decide +kernel) (da_cons (de_var 0) da_nil)) de_int)) (dw_or (dt_cmpR (od_eq hu) (de_slice (de_var 0) do_none (do_some de_int)) de_str (by rfl)) (dw_or1 (dt_cmpR (od_in hu5) (de_var 0) (de_callG0 G__law_reserved hr (by omega) (by rfl)) (by rfl))))))) (dss_one (ds_ret de_bl)) dss_nil)
    (dss_cons (ds_if (dt_cmpR (od_notIn hu5) (de_ix hu (de_var 0) de_int (fun _ _ => rfl)) de_str (by rfl)) (dss_one (ds_ret de_bl)) dss_nil)
    (dss_one (ds_ret (de_callB (xd_all rfl) (by rfl) B.n_all (by decide +kernel) (da_cons (de_lc (own := [("_law_sign", 1)]) (by rfl) sc__law_good_name.nd (di_seq (de_var 0)) (blkOk_by (own := [("_law_sign", 1)]) (N := ["_law_thing", "_law_sign"]) (sc := defScope s__law_good_name) (by decide +kernel)) (fun _ _ _ _ _ => (dg_name 1 (okAtW (by decide)) sc__law_good_name.nd rfl (by first | exact Or.inl rfl | exact Or.inr rfl))) (fun _ _ _ _ _ => dts_nil) (fun _ _ _ _ _ => (de_cmpR (od_in hu5) (de_var 1) de_str (by rfl)))) da_nil))))))
theorem good__law_good_name {sp : P1} {sp__law_reserved : P1} (T : TopF K mg "_law_good_name" "_law_good_name" s__law_good_name ["_law_thing"]) (B : Blt w K mg) (G__law_reserved : Good P w K mg base 1 "_law_reserved" [] sp__law_reserved) (len : ∀ ds h Q, sp ds h Q → ds.length = 1) (sat : ∀ ds h Q, sp ds h Q → rd__law_good_name sp__law_reserved (endN Q) (startD 2 ds) h) : Good P w K mg base 2 "_law_good_name" ["_law_thing"] sp :=
  good_ok T sc__law_good_name len (body__law_good_name B G__law_reserved) sat
theorem body__law_take {sp__law_see : P1} (B : Blt w K mg) (G__law_see : Good P w K mg base 1 "_law_see" ["_law_c"] sp__law_see) (f : Addr) (cdv : Value) (A : Around) (outer : List Env) (s : Shared) (H : Hp) (E : XK) (hr : RoomG 1 (A.deeper (envOfC "_law_take" (defScope s__law_take) s.heap.objs.size f cdv))) :
    DSs (cxOf CX0 P w K mg base ["_law_c", "_law_word_here"] "_law_take" (defScope s__law_take) f cdv A outer s H E).nox (defBody s__law_take) (rd__law_take sp__law_see) := by
  have hu := hr.r.units
  have hu5 : (A.deeper (envOfC "_law_take" (defScope s__law_take) s.heap.objs.size f cdv)).units + 65 < cLine := by have := hr.r.un; omega
  exact (dss_one (ds_if (dt_w (dw_and (dt_not (dt_tru (de_ix hu (de_var 0) de_int (fun _ _ => rfl)))) (dw_and1 (dt_cmpR (od_eq hu) (de_callG G__law_see hr (by omega) (by rfl) (da_cons (de_var 0) da_nil)) (de_var 1) (by rfl))))) (dss_one (ds_asg (de_op od_add (de_ix hu (de_var 0) de_int (fun _ _ => rfl)) de_int) (dg_sub hu (de_var 0) de_int))) (dss_one (ds_asg de_bl (dg_sub hu (de_var 0) de_int)))))
theorem good__law_take {sp : P1} {sp__law_see : P1} (T : TopF K mg "_law_take" "_law_take" s__law_take ["_law_c", "_law_word_here"]) (B : Blt w K mg) (G__law_see : Good P w K mg base 1 "_law_see" ["_law_c"] sp__law_see) (len : ∀ ds h Q, sp ds h Q → ds.length = 2) (sat : ∀ ds h Q, sp ds h Q → rd__law_take sp__law_see (endN Q) (startD 2 ds) h) : Good P w K mg base 2 "_law_take" ["_law_c", "_law_word_here"] sp :=
  good_ok T sc__law_take len (body__law_take B G__law_see) sat
theorem body__law_take_number {sp__law_see : P1} (B : Blt w K mg) (G__law_see : Good P w K mg base 1 "_law_see" ["_law_c"] sp__law_see) (f : Addr) (cdv : Value) (A : Around) (outer : List Env) (s : Shared) (H : Hp) (E : XK) (hr : RoomG 1 (A.deeper (envOfC "_law_take_number" (defScope s__law_take_number) s.heap.objs.size f cdv))) :
    DSs (cxOf CX0 P w K mg base ["_law_c", "_law_low", "_law_high", "_law_word_here", "_law_good", "_law_sign"] "_law_take_number" (defScope s__law_take_number) f cdv A outer s H E).nox (defBody s__law_take_number) (rd__law_take_number sp__law_see) := by
  have hu := hr.r.units
  have hu5 : (A.deeper (envOfC "_law_take_number" (defScope s__law_take_number) s.heap.objs.size f cdv)).units + 65 < cLine := by have := hr.r.un; omega
  exact (dss_cons (ds_set 3 sc__law_take_number.nd rfl (by first | exact Or.inl rfl | exact Or.inr rfl) (de_callG G__law_see hr (by omega) (by rfl) (da_cons (de_var 0) da_nil)))
    (dss_cons (ds_set 4 sc__law_take_number.nd rfl (by first | exact Or.inl rfl | exact Or.inr rfl) (de_and (de_chain od_le od_le de_int (de_callB xd_len (by rfl) B.n_len (by decide +kernel) (da_cons (de_var 3) da_nil)) de_int) (de_and (de_callB (xd_all rfl) (by rfl) B.n_all (by decide +kernel) (da_cons (de_lc (own := [("_law_sign", 5)]) (by rfl) sc__law_take_number.nd (di_seq (de_var 3)) (blkOk_by (own := [("_law_sign", 5)]) (N := ["_law_c", "_law_low", "_law_high", "_law_word_here", "_law_good", "_law_sign"]) (sc := defScope s__law_take_number) (by decide +kernel)) (fun _ _ _ _ _ => (dg_name 5 (okAtW (by decide)) sc__law_take_number.nd rfl (by first | exact Or.inl rfl | exact Or.inr rfl))) (fun _ _ _ _ _ => dts_nil) (fun _ _ _ _ _ => (de_cmpR (od_in hu5) (de_var 5) de_str (by rfl)))) da_nil)) (de_one (de_or (de_cmpR (od_eq hu) (de_var 3) de_str (by rfl)) (de_one (de_cmpR (od_ne hu) (de_ix hu (de_var 3) de_int (fun _ _ => rfl)) de_str (by rfl))))))))
    (dss_cons (ds_if (dt_w (dw_or (dt_tru (de_ix hu (de_var 0) de_int (fun _ _ => rfl))) (dw_or (dt_not (dt_tru (de_var 4))) (dw_or1 (dt_not (dt_chain od_le od_le (de_var 1) (de_callTy xd_intS (by rfl) B.n_int (by decide +kernel) (da_cons (de_var 3) da_nil)) (de_var 2))))))) (dss_cons (ds_asg de_bl (dg_sub hu (de_var 0) de_int))
    (dss_one (ds_ret de_int))) dss_nil)
    (dss_cons (ds_asg (de_op od_add (de_ix hu (de_var 0) de_int (fun _ _ => rfl)) de_int) (dg_sub hu (de_var 0) de_int))
    (dss_one (ds_ret (de_callTy xd_intS (by rfl) B.n_int (by decide +kernel) (da_cons (de_var 3) da_nil))))))))
theorem good__law_take_number {sp : P1} {sp__law_see : P1} (T : TopF K mg "_law_take_number" "_law_take_number" s__law_take_number ["_law_c", "_law_low", "_law_high"]) (B : Blt w K mg) (G__law_see : Good P w K mg base 1 "_law_see" ["_law_c"] sp__law_see) (len : ∀ ds h Q, sp ds h Q → ds.length = 3) (sat : ∀ ds h Q, sp ds h Q → rd__law_take_number sp__law_see (endN Q) (startD 6 ds) h) : Good P w K mg base 2 "_law_take_number" ["_law_c", "_law_low", "_law_high"] sp :=
  good_ok T sc__law_take_number len (body__law_take_number B G__law_see) sat
theorem body_walk_tokens {sp_enclosed : P1} {sp_walk_tokens : P1} {sp_test_tokens : P1} (B : Blt w K mg) {d : Nat} (G_enclosed : Good P w K mg base 1 "enclosed" ["tokens", "level", "needed"] sp_enclosed) (G_walk_tokens : Good P w K mg base (2 + d) "walk_tokens" ["walk", "needed"] sp_walk_tokens) (G_test_tokens : Good P w K mg base 1 "test_tokens" ["tests"] sp_test_tokens) (f : Addr) (cdv : Value) (A : Around) (outer : List Env) (s : Shared) (H : Hp) (E : XK) (hr : RoomG (2 + d) (A.deeper (envOfC "walk_tokens" (defScope s_walk_tokens) s.heap.objs.size f cdv))) :
    DSs (cxOf CX0 P w K mg base ["walk", "needed", "word"] "walk_tokens" (defScope s_walk_tokens) f cdv A outer s H E).nox (defBody s_walk_tokens) (rd_walk_tokens sp_enclosed sp_walk_tokens sp_test_tokens) := by
  have hu := hr.r.units
  have hu5 : (A.deeper (envOfC "walk_tokens" (defScope s_walk_tokens) s.heap.objs.size f cdv)).units + 65 < cLine := by have := hr.r.un; omega
  exact (dss_cons (ds_set 2 sc_walk_tokens.nd rfl (by first | exact Or.inl rfl | exact Or.inr rfl) (de_ix hu (de_var 0) de_int (fun _ _ => rfl)))
    (dss_cons (ds_if (dt_cmpR (od_eq hu) (de_var 2) de_str (by rfl)) (dss_one (ds_ret (de_callG G_enclosed hr (by omega) (by rfl) (da_cons (de_op od_add (de_op od_add (de_callG G_walk_tokens hr (by omega) (by rfl) (da_cons (de_ix hu (de_var 0) de_int (fun _ _ => rfl)) (da_cons de_int da_nil))) (de_lst (da_cons de_str da_nil))) (de_callG G_walk_tokens hr (by omega) (by rfl) (da_cons (de_ix hu (de_var 0) de_int (fun _ _ => rfl)) (da_cons de_int da_nil)))) (da_cons de_int (da_cons (de_var 1) da_nil)))))) dss_nil)
    (dss_cons (ds_if (dt_cmpR (od_eq hu) (de_var 2) de_str (by rfl)) (dss_one (ds_ret (de_callG G_enclosed hr (by omega) (by rfl) (da_cons (de_op od_add (de_callG G_walk_tokens hr (by omega) (by rfl) (da_cons (de_ix hu (de_var 0) de_int (fun _ _ => rfl)) (da_cons de_int da_nil))) (de_callG G_walk_tokens hr (by omega) (by rfl) (da_cons (de_ix hu (de_var 0) de_int (fun _ _ => rfl)) (da_cons de_int da_nil)))) (da_cons de_int (da_cons (de_var 1) da_nil)))))) dss_nil)
    (dss_cons (ds_if (dt_cmpR (od_eq hu) (de_var 2) de_str (by rfl)) (dss_one (ds_ret (de_op od_add (de_callG G_walk_tokens hr (by omega) (by rfl) (da_cons (de_ix hu (de_var 0) de_int (fun _ _ => rfl)) (da_cons de_int da_nil))) (de_lst (da_cons de_str (da_cons (de_callTy xd_str (by rfl) B.n_str (by decide +kernel) (da_cons (de_ix hu (de_var 0) de_int (fun _ _ => rfl)) da_nil)) (da_cons de_str da_nil))))))) dss_nil)
    (dss_cons (ds_if (dt_inS (by rfl) B.k_SIGNS (de_var 2)) (dss_one (ds_ret (de_op od_add (de_callG G_walk_tokens hr (by omega) (by rfl) (da_cons (de_ix hu (de_var 0) de_int (fun _ _ => rfl)) (da_cons de_int da_nil))) (de_lst (da_cons (de_ixS (by rfl) B.k_SIGNS okk_SIGNS (de_var 2) (fun _ _ => rfl)) da_nil))))) dss_nil)
    (dss_cons (ds_if (dt_cmpR (od_eq hu) (de_var 2) de_str (by rfl)) (dss_one (ds_ret (de_lst (da_cons de_str (da_cons (de_ix hu (de_var 0) de_int (fun _ _ => rfl)) da_nil))))) dss_nil)
    (dss_one (ds_ret (de_op od_add (de_lst (da_cons (de_ix hu (de_var 0) de_int (fun _ _ => rfl)) da_nil)) (de_ifExp (dt_tru (de_ix hu (de_var 0) de_int (fun _ _ => rfl))) (de_callG G_test_tokens hr (by omega) (by rfl) (da_cons (de_ix hu (de_var 0) de_int (fun _ _ => rfl)) da_nil)) (de_lst da_nil)))))))))))
theorem good_walk_tokens {sp : P1} {sp_enclosed : P1} {sp_walk_tokens : P1} {sp_test_tokens : P1} (T : TopF K mg "walk_tokens" "walk_tokens" s_walk_tokens ["walk", "needed"]) (B : Blt w K mg) {d : Nat} (G_enclosed : Good P w K mg base 1 "enclosed" ["tokens", "level", "needed"] sp_enclosed) (G_walk_tokens : Good P w K mg base (2 + d) "walk_tokens" ["walk", "needed"] sp_walk_tokens) (G_test_tokens : Good P w K mg base 1 "test_tokens" ["tests"] sp_test_tokens) (len : ∀ ds h Q, sp ds h Q → ds.length = 2) (sat : ∀ ds h Q, sp ds h Q → rd_walk_tokens sp_enclosed sp_walk_tokens sp_test_tokens (endN Q) (startD 3 ds) h) : Good P w K mg base (2 + d + 1) "walk_tokens" ["walk", "needed"] sp :=
  good_ok T sc_walk_tokens len (body_walk_tokens B G_enclosed G_walk_tokens G_test_tokens) sat
theorem body__law_word {sp__law_draw : P1} {sp__law_pick : P1} {sp__law_reserved : P1} (B : Blt w K mg) (G__law_draw : Good P w K mg base 1 "_law_draw" ["_law_d", "_law_many"] sp__law_draw) (G__law_pick : Good P w K mg base 2 "_law_pick" ["_law_d", "_law_row"] sp__law_pick) (G__law_reserved : Good P w K mg base 1 "_law_reserved" [] sp__law_reserved) (f : Addr) (cdv : Value) (A : Around) (outer : List Env) (s : Shared) (H : Hp) (E : XK) (hr : RoomG 2 (A.deeper (envOfC "_law_word" (defScope s__law_word) s.heap.objs.size f cdv))) :
    DSs (cxOf CX0 P w K mg base ["_law_d", "_law_way", "_law_words", "_law_word_here", "_law_signs", "_law_k"] "_law_word" (defScope s__law_word) f cdv A outer s H E).nox (defBody s__law_word) (rd__law_word sp__law_draw sp__law_pick sp__law_reserved) := by
  have hu := hr.r.units
  have hu5 : (A.deeper (envOfC "_law_word" (defScope s__law_word) s.heap.objs.size f cdv)).units + 65 < cLine := by have := hr.r.un; omega
  exact (dss_cons (ds_set 1 sc__law_word.nd rfl (by first | exact Or.inl rfl | exact Or.inr rfl) (de_callG G__law_draw hr (by omega) (by rfl) (da_cons (de_var 0) (da_cons de_int da_nil))))
    (dss_cons (ds_if (dt_cmpR (od_eq hu) (de_var 1) de_int (by rfl)) (dss_cons (ds_set 2 sc__law_word.nd rfl (by first | exact Or.inl rfl | exact Or.inr rfl) de_str)
    (dss_one (ds_ret (de_callG G__law_pick hr (by omega) (by rfl) (da_cons (de_var 0) (da_cons (de_split (de_var 2) de_str) da_nil)))))) dss_nil)
    (dss_cons (ds_if (dt_cmpR (od_eq hu) (de_var 1) de_int (by rfl)) (dss_cons (ds_set 3 sc__law_word.nd rfl (by first | exact Or.inl rfl | exact Or.inr rfl) (de_callG G__law_pick hr (by omega) (by rfl) (da_cons (de_var 0) (da_cons (de_callG0 G__law_reserved hr (by omega) (by rfl)) da_nil))))
    (dss_one (ds_ret (de_callG G__law_pick hr (by omega) (by rfl) (da_cons (de_var 0) (da_cons (de_lst (da_cons (de_slice (de_var 3) do_none (do_some (de_neg de_int))) (da_cons (de_op od_add de_str (de_var 3)) (da_cons (de_op od_add (de_var 3) de_str) (da_cons (de_op od_add (de_var 3) de_str) da_nil))))) da_nil)))))) dss_nil)
    (dss_cons (ds_set 4 sc__law_word.nd rfl (by first | exact Or.inl rfl | exact Or.inr rfl) de_str)
    (dss_cons (ds_set 3 sc__law_word.nd rfl (by first | exact Or.inl rfl | exact Or.inr rfl) (de_ix hu (de_var 4) (de_callG G__law_draw hr (by omega) (by rfl) (da_cons (de_var 0) (da_cons de_int da_nil))) (fun _ _ => rfl)))
    (dss_cons (ds_for PassesOwn.never (by rfl) (di_range1 (by rfl) B.n_range (da_cons (de_ifExp (dt_cmpR (od_eq hu) (de_var 1) de_int (by rfl)) de_int (de_callG G__law_draw hr (by omega) (by rfl) (da_cons (de_var 0) (da_cons de_int da_nil)))) da_nil)) (dg_name 5 okAt0 sc__law_word.nd rfl (by first | exact Or.inl rfl | exact Or.inr rfl)) (dss_one (ds_set 3 sc__law_word.nd rfl (by first | exact Or.inl rfl | exact Or.inr rfl) (de_op od_add (de_var 3) (de_ix hu (de_var 4) (de_callG G__law_draw hr (by omega) (by rfl) (da_cons (de_var 0) (da_cons de_int da_nil))) (fun _ _ => rfl))))))
    (dss_cons (ds_if (dt_cmpR (od_eq hu) (de_slice (de_var 3) do_none (do_some de_int)) de_str (by rfl)) (dss_one (ds_set 3 sc__law_word.nd rfl (by first | exact Or.inl rfl | exact Or.inr rfl) (de_op od_add de_str (de_slice (de_var 3) (do_some de_int) do_none)))) dss_nil)
    (dss_one (ds_ret (de_ifExp (dt_cmpR (od_in hu5) (de_var 3) (de_callG0 G__law_reserved hr (by omega) (by rfl)) (by rfl)) (de_op od_add (de_var 3) de_str) (de_var 3)))))))))))
theorem good__law_word {sp : P1} {sp__law_draw : P1} {sp__law_pick : P1} {sp__law_reserved : P1} (T : TopF K mg "_law_word" "_law_word" s__law_word ["_law_d"]) (B : Blt w K mg) (G__law_draw : Good P w K mg base 1 "_law_draw" ["_law_d", "_law_many"] sp__law_draw) (G__law_pick : Good P w K mg base 2 "_law_pick" ["_law_d", "_law_row"] sp__law_pick) (G__law_reserved : Good P w K mg base 1 "_law_reserved" [] sp__law_reserved) (len : ∀ ds h Q, sp ds h Q → ds.length = 1) (sat : ∀ ds h Q, sp ds h Q → rd__law_word sp__law_draw sp__law_pick sp__law_reserved (endN Q) (startD 6 ds) h) : Good P w K mg base 3 "_law_word" ["_law_d"] sp :=
  good_ok T sc__law_word len (body__law_word B G__law_draw G__law_pick G__law_reserved) sat
theorem body__law_take_name {sp__law_see : P1} {sp__law_good_name : P1} (B : Blt w K mg) (G__law_see : Good P w K mg base 1 "_law_see" ["_law_c"] sp__law_see) (G__law_good_name : Good P w K mg base 2 "_law_good_name" ["_law_thing"] sp__law_good_name) (f : Addr) (cdv : Value) (A : Around) (outer : List Env) (s : Shared) (H : Hp) (E : XK) (hr : RoomG 2 (A.deeper (envOfC "_law_take_name" (defScope s__law_take_name) s.heap.objs.size f cdv))) :
    DSs (cxOf CX0 P w K mg base ["_law_c", "_law_word_here"] "_law_take_name" (defScope s__law_take_name) f cdv A outer s H E).nox (defBody s__law_take_name) (rd__law_take_name sp__law_see sp__law_good_name) := by
  have hu := hr.r.units
  have hu5 : (A.deeper (envOfC "_law_take_name" (defScope s__law_take_name) s.heap.objs.size f cdv)).units + 65 < cLine := by have := hr.r.un; omega
  exact (dss_cons (ds_set 1 sc__law_take_name.nd rfl (by first | exact Or.inl rfl | exact Or.inr rfl) (de_callG G__law_see hr (by omega) (by rfl) (da_cons (de_var 0) da_nil)))
    (dss_cons (ds_if (dt_w (dw_or (dt_tru (de_ix hu (de_var 0) de_int (fun _ _ => rfl))) (dw_or1 (dt_not (dt_tru (de_callG G__law_good_name hr (by omega) (by rfl) (da_cons (de_var 1) da_nil))))))) (dss_cons (ds_asg de_bl (dg_sub hu (de_var 0) de_int))
    (dss_one (ds_ret de_str))) dss_nil)
    (dss_cons (ds_asg (de_op od_add (de_ix hu (de_var 0) de_int (fun _ _ => rfl)) de_int) (dg_sub hu (de_var 0) de_int))
    (dss_one (ds_ret (de_var 1))))))
theorem good__law_take_name {sp : P1} {sp__law_see : P1} {sp__law_good_name : P1} (T : TopF K mg "_law_take_name" "_law_take_name" s__law_take_name ["_law_c"]) (B : Blt w K mg) (G__law_see : Good P w K mg base 1 "_law_see" ["_law_c"] sp__law_see) (G__law_good_name : Good P w K mg base 2 "_law_good_name" ["_law_thing"] sp__law_good_name) (len : ∀ ds h Q, sp ds h Q → ds.length = 1) (sat : ∀ ds h Q, sp ds h Q → rd__law_take_name sp__law_see sp__law_good_name (endN Q) (startD 2 ds) h) : Good P w K mg base 3 "_law_take_name" ["_law_c"] sp :=
  good_ok T sc__law_take_name len (body__law_take_name B G__law_see G__law_good_name) sat
theorem body_any_walk_tokens {sp_table_tokens : P1} {sp_walk_tokens : P1} (B : Blt w K mg) (G_table_tokens : Good P w K mg base 1 "table_tokens" ["walk"] sp_table_tokens) (G_walk_tokens : Good P w K mg base 3 "walk_tokens" ["walk", "needed"] sp_walk_tokens) (f : Addr) (cdv : Value) (A : Around) (outer : List Env) (s : Shared) (H : Hp) (E : XK) (hr : RoomG 3 (A.deeper (envOfC "any_walk_tokens" (defScope s_any_walk_tokens) s.heap.objs.size f cdv))) :
    DSs (cxOf CX0 P w K mg base ["walk"] "any_walk_tokens" (defScope s_any_walk_tokens) f cdv A outer s H E).nox (defBody s_any_walk_tokens) (rd_any_walk_tokens sp_table_tokens sp_walk_tokens) := by
  have hu := hr.r.units
  have hu5 : (A.deeper (envOfC "any_walk_tokens" (defScope s_any_walk_tokens) s.heap.objs.size f cdv)).units + 65 < cLine := by have := hr.r.un; omega
  exact (dss_one (ds_ret (de_ifExp (dt_cmpR (od_eq hu) (de_ix hu (de_var 0) de_int (fun _ _ => rfl)) de_str (by rfl)) (de_callG G_table_tokens hr (by omega) (by rfl) (da_cons (de_var 0) da_nil)) (de_callG G_walk_tokens hr (by omega) (by rfl) (da_cons (de_var 0) (da_cons de_int da_nil))))))
theorem good_any_walk_tokens {sp : P1} {sp_table_tokens : P1} {sp_walk_tokens : P1} (T : TopF K mg "any_walk_tokens" "any_walk_tokens" s_any_walk_tokens ["walk"]) (B : Blt w K mg) (G_table_tokens : Good P w K mg base 1 "table_tokens" ["walk"] sp_table_tokens) (G_walk_tokens : Good P w K mg base 3 "walk_tokens" ["walk", "needed"] sp_walk_tokens) (len : ∀ ds h Q, sp ds h Q → ds.length = 1) (sat : ∀ ds h Q, sp ds h Q → rd_any_walk_tokens sp_table_tokens sp_walk_tokens (endN Q) (startD 1 ds) h) : Good P w K mg base 4 "any_walk_tokens" ["walk"] sp :=
  good_ok T sc_any_walk_tokens len (body_any_walk_tokens B G_table_tokens G_walk_tokens) sat
theorem body__law_side {sp__law_draw : P1} {sp__law_word : P1} (B : Blt w K mg) (G__law_draw : Good P w K mg base 1 "_law_draw" ["_law_d", "_law_many"] sp__law_draw) (G__law_word : Good P w K mg base 3 "_law_word" ["_law_d"] sp__law_word) (f : Addr) (cdv : Value) (A : Around) (outer : List Env) (s : Shared) (H : Hp) (E : XK) (hr : RoomG 3 (A.deeper (envOfC "_law_side" (defScope s__law_side) s.heap.objs.size f cdv))) :
    DSs (cxOf CX0 P w K mg base ["_law_d", "_law_way"] "_law_side" (defScope s__law_side) f cdv A outer s H E).nox (defBody s__law_side) (rd__law_side sp__law_draw sp__law_word) := by
  have hu := hr.r.units
  have hu5 : (A.deeper (envOfC "_law_side" (defScope s__law_side) s.heap.objs.size f cdv)).units + 65 < cLine := by have := hr.r.un; omega
  exact (dss_cons (ds_set 1 sc__law_side.nd rfl (by first | exact Or.inl rfl | exact Or.inr rfl) (de_callG G__law_draw hr (by omega) (by rfl) (da_cons (de_var 0) (da_cons de_int da_nil))))
    (dss_cons (ds_if (dt_cmpR od_lt (de_var 1) de_int (by rfl)) (dss_one (ds_ret (de_ix hu (de_lst (da_cons de_str (da_cons de_str da_nil))) (de_var 1) (fun _ _ => rfl)))) dss_nil)
    (dss_one (ds_ret (de_op od_add (de_ix hu (de_lst (da_cons de_str (da_cons de_str (da_cons de_str da_nil)))) (de_op od_sub (de_var 1) de_int) (fun _ _ => rfl)) (de_callG G__law_word hr (by omega) (by rfl) (da_cons (de_var 0) da_nil)))))))
theorem good__law_side {sp : P1} {sp__law_draw : P1} {sp__law_word : P1} (T : TopF K mg "_law_side" "_law_side" s__law_side ["_law_d"]) (B : Blt w K mg) (G__law_draw : Good P w K mg base 1 "_law_draw" ["_law_d", "_law_many"] sp__law_draw) (G__law_word : Good P w K mg base 3 "_law_word" ["_law_d"] sp__law_word) (len : ∀ ds h Q, sp ds h Q → ds.length = 1) (sat : ∀ ds h Q, sp ds h Q → rd__law_side sp__law_draw sp__law_word (endN Q) (startD 2 ds) h) : Good P w K mg base 4 "_law_side" ["_law_d"] sp :=
  good_ok T sc__law_side len (body__law_side B G__law_draw G__law_word) sat
theorem body__law_take_side {sp__law_see : P1} {sp__law_take : P1} {sp__law_take_name : P1} (B : Blt w K mg) (G__law_see : Good P w K mg base 1 "_law_see" ["_law_c"] sp__law_see) (G__law_take : Good P w K mg base 2 "_law_take" ["_law_c", "_law_word_here"] sp__law_take) (G__law_take_name : Good P w K mg base 3 "_law_take_name" ["_law_c"] sp__law_take_name) (f : Addr) (cdv : Value) (A : Around) (outer : List Env) (s : Shared) (H : Hp) (E : XK) (hr : RoomG 3 (A.deeper (envOfC "_law_take_side" (defScope s__law_take_side) s.heap.objs.size f cdv))) :
    DSs (cxOf CX0 P w K mg base ["_law_c", "_law_word_here"] "_law_take_side" (defScope s__law_take_side) f cdv A outer s H E).nox (defBody s__law_take_side) (rd__law_take_side sp__law_see sp__law_take sp__law_take_name) := by
  have hu := hr.r.units
  have hu5 : (A.deeper (envOfC "_law_take_side" (defScope s__law_take_side) s.heap.objs.size f cdv)).units + 65 < cLine := by have := hr.r.un; omega
  exact (dss_cons (ds_set 1 sc__law_take_side.nd rfl (by first | exact Or.inl rfl | exact Or.inr rfl) (de_callG G__law_see hr (by omega) (by rfl) (da_cons (de_var 0) da_nil)))
    (dss_cons (ds_if (dt_w (dw_and (dt_not (dt_tru (de_ix hu (de_var 0) de_int (fun _ _ => rfl)))) (dw_and1 (dt_cmpR (od_in hu5) (de_var 1) (de_lst (da_cons de_str (da_cons de_str da_nil))) (by rfl))))) (dss_cons (ds_asg (de_op od_add (de_ix hu (de_var 0) de_int (fun _ _ => rfl)) de_int) (dg_sub hu (de_var 0) de_int))
    (dss_one (ds_ret (de_var 1)))) dss_nil)
    (dss_cons (ds_if (dt_w (dw_and (dt_not (dt_tru (de_ix hu (de_var 0) de_int (fun _ _ => rfl)))) (dw_and1 (dt_cmpR (od_in hu5) (de_var 1) (de_lst (da_cons de_str (da_cons de_str (da_cons de_str da_nil)))) (by rfl))))) (dss_cons (ds_asg (de_op od_add (de_ix hu (de_var 0) de_int (fun _ _ => rfl)) de_int) (dg_sub hu (de_var 0) de_int))
    (dss_cons (ds_expr (de_callG G__law_take hr (by omega) (by rfl) (da_cons (de_var 0) (da_cons de_str da_nil))))
    (dss_one (ds_ret (de_op od_add (de_op od_add (de_var 1) de_str) (de_callG G__law_take_name hr (by omega) (by rfl) (da_cons (de_var 0) da_nil))))))) dss_nil)
    (dss_cons (ds_asg de_bl (dg_sub hu (de_var 0) de_int))
    (dss_one (ds_ret de_str))))))
theorem good__law_take_side {sp : P1} {sp__law_see : P1} {sp__law_take : P1} {sp__law_take_name : P1} (T : TopF K mg "_law_take_side" "_law_take_side" s__law_take_side ["_law_c"]) (B : Blt w K mg) (G__law_see : Good P w K mg base 1 "_law_see" ["_law_c"] sp__law_see) (G__law_take : Good P w K mg base 2 "_law_take" ["_law_c", "_law_word_here"] sp__law_take) (G__law_take_name : Good P w K mg base 3 "_law_take_name" ["_law_c"] sp__law_take_name) (len : ∀ ds h Q, sp ds h Q → ds.length = 1) (sat : ∀ ds h Q, sp ds h Q → rd__law_take_side sp__law_see sp__law_take sp__law_take_name (endN Q) (startD 2 ds) h) : Good P w K mg base 4 "_law_take_side" ["_law_c"] sp :=
  good_ok T sc__law_take_side len (body__law_take_side B G__law_see G__law_take G__law_take_name) sat
theorem body__law_fact {sp__law_draw : P1} {sp__law_word : P1} {sp__law_gap : P1} {sp__law_side : P1} (B : Blt w K mg) (G__law_draw : Good P w K mg base 1 "_law_draw" ["_law_d", "_law_many"] sp__law_draw) (G__law_word : Good P w K mg base 3 "_law_word" ["_law_d"] sp__law_word) (G__law_gap : Good P w K mg base 2 "_law_gap" ["_law_d"] sp__law_gap) (G__law_side : Good P w K mg base 4 "_law_side" ["_law_d"] sp__law_side) (f : Addr) (cdv : Value) (A : Around) (outer : List Env) (s : Shared) (H : Hp) (E : XK) (hr : RoomG 4 (A.deeper (envOfC "_law_fact" (defScope s__law_fact) s.heap.objs.size f cdv))) :
    DSs (cxOf CX0 P w K mg base ["_law_d", "_law_way"] "_law_fact" (defScope s__law_fact) f cdv A outer s H E).nox (defBody s__law_fact) (rd__law_fact sp__law_draw sp__law_word sp__law_gap sp__law_side) := by
  have hu := hr.r.units
  have hu5 : (A.deeper (envOfC "_law_fact" (defScope s__law_fact) s.heap.objs.size f cdv)).units + 65 < cLine := by have := hr.r.un; omega
  exact (dss_cons (ds_set 1 sc__law_fact.nd rfl (by first | exact Or.inl rfl | exact Or.inr rfl) (de_callG G__law_draw hr (by omega) (by rfl) (da_cons (de_var 0) (da_cons de_int da_nil))))
    (dss_cons (ds_if (dt_cmpR (od_eq hu) (de_var 1) de_int (by rfl)) (dss_one (ds_ret (de_tup (da_cons de_str da_nil)))) dss_nil)
    (dss_cons (ds_if (dt_cmpR od_lt (de_var 1) de_int (by rfl)) (dss_one (ds_ret (de_tup (da_cons (de_ix hu (de_lst (da_cons de_str (da_cons de_str da_nil))) (de_op od_sub (de_var 1) de_int) (fun _ _ => rfl)) (da_cons (de_callG G__law_word hr (by omega) (by rfl) (da_cons (de_var 0) da_nil)) da_nil))))) dss_nil)
    (dss_cons (ds_if (dt_cmpR (od_eq hu) (de_var 1) de_int (by rfl)) (dss_one (ds_ret (de_tup (da_cons de_str (da_cons (de_ix hu (de_lst (da_cons de_str (da_cons de_str da_nil))) (de_callG G__law_draw hr (by omega) (by rfl) (da_cons (de_var 0) (da_cons de_int da_nil))) (fun _ _ => rfl)) (da_cons (de_callG G__law_word hr (by omega) (by rfl) (da_cons (de_var 0) da_nil)) da_nil)))))) dss_nil)
    (dss_cons (ds_if (dt_cmpR od_lt (de_var 1) de_int (by rfl)) (dss_one (ds_ret (de_tup (da_cons de_str (da_cons (de_callG G__law_word hr (by omega) (by rfl) (da_cons (de_var 0) da_nil)) (da_cons (de_ifExp (dt_cmpR (od_eq hu) (de_var 1) de_int (by rfl)) de_str (de_callG G__law_word hr (by omega) (by rfl) (da_cons (de_var 0) da_nil))) da_nil)))))) dss_nil)
    (dss_one (ds_ret (de_tup (da_cons de_str (da_cons (de_callG G__law_side hr (by omega) (by rfl) (da_cons (de_var 0) da_nil)) (da_cons (de_callG G__law_side hr (by omega) (by rfl) (da_cons (de_var 0) da_nil)) (da_cons (de_callG G__law_gap hr (by omega) (by rfl) (da_cons (de_var 0) da_nil)) da_nil))))))))))))
theorem good__law_fact {sp : P1} {sp__law_draw : P1} {sp__law_word : P1} {sp__law_gap : P1} {sp__law_side : P1} (T : TopF K mg "_law_fact" "_law_fact" s__law_fact ["_law_d"]) (B : Blt w K mg) (G__law_draw : Good P w K mg base 1 "_law_draw" ["_law_d", "_law_many"] sp__law_draw) (G__law_word : Good P w K mg base 3 "_law_word" ["_law_d"] sp__law_word) (G__law_gap : Good P w K mg base 2 "_law_gap" ["_law_d"] sp__law_gap) (G__law_side : Good P w K mg base 4 "_law_side" ["_law_d"] sp__law_side) (len : ∀ ds h Q, sp ds h Q → ds.length = 1) (sat : ∀ ds h Q, sp ds h Q → rd__law_fact sp__law_draw sp__law_word sp__law_gap sp__law_side (endN Q) (startD 2 ds) h) : Good P w K mg base 5 "_law_fact" ["_law_d"] sp :=
  good_ok T sc__law_fact len (body__law_fact B G__law_draw G__law_word G__law_gap G__law_side) sat
theorem body__law_take_atmost {sp__law_take_side : P1} {sp__law_take : P1} {sp__law_see : P1} {sp__law_take_number : P1} (B : Blt w K mg) (G__law_take_side : Good P w K mg base 4 "_law_take_side" ["_law_c"] sp__law_take_side) (G__law_take : Good P w K mg base 2 "_law_take" ["_law_c", "_law_word_here"] sp__law_take) (G__law_see : Good P w K mg base 1 "_law_see" ["_law_c"] sp__law_see) (G__law_take_number : Good P w K mg base 2 "_law_take_number" ["_law_c", "_law_low", "_law_high"] sp__law_take_number) (f : Addr) (cdv : Value) (A : Around) (outer : List Env) (s : Shared) (H : Hp) (E : XK) (hr : RoomG 4 (A.deeper (envOfC "_law_take_atmost" (defScope s__law_take_atmost) s.heap.objs.size f cdv))) :
    DSs (cxOf CX0 P w K mg base ["_law_c", "_law_left", "_law_right", "_law_sign", "_law_gap_here"] "_law_take_atmost" (defScope s__law_take_atmost) f cdv A outer s H E).nox (defBody s__law_take_atmost) (rd__law_take_atmost sp__law_take_side sp__law_take sp__law_see sp__law_take_number) := by
  have hu := hr.r.units
  have hu5 : (A.deeper (envOfC "_law_take_atmost" (defScope s__law_take_atmost) s.heap.objs.size f cdv)).units + 65 < cLine := by have := hr.r.un; omega
  exact (dss_cons (ds_set 1 sc__law_take_atmost.nd rfl (by first | exact Or.inl rfl | exact Or.inr rfl) (de_callG G__law_take_side hr (by omega) (by rfl) (da_cons (de_var 0) da_nil)))
    (dss_cons (ds_expr (de_callG G__law_take hr (by omega) (by rfl) (da_cons (de_var 0) (da_cons de_str da_nil))))
    (dss_cons (ds_set 2 sc__law_take_atmost.nd rfl (by first | exact Or.inl rfl | exact Or.inr rfl) (de_callG G__law_take_side hr (by omega) (by rfl) (da_cons (de_var 0) da_nil)))
    (dss_cons (ds_set 3 sc__law_take_atmost.nd rfl (by first | exact Or.inl rfl | exact Or.inr rfl) (de_callG G__law_see hr (by omega) (by rfl) (da_cons (de_var 0) da_nil)))
    (dss_cons (ds_if (dt_w (dw_or (dt_tru (de_ix hu (de_var 0) de_int (fun _ _ => rfl))) (dw_or1 (dt_cmpR (od_notIn hu5) (de_var 3) (de_lst (da_cons de_str (da_cons de_str da_nil))) (by rfl))))) (dss_one (ds_ret (de_tup (da_cons de_str (da_cons (de_var 1) (da_cons (de_var 2) (da_cons de_int da_nil))))))) dss_nil)
    (dss_cons (ds_asg (de_op od_add (de_ix hu (de_var 0) de_int (fun _ _ => rfl)) de_int) (dg_sub hu (de_var 0) de_int))
    (dss_cons (ds_set 4 sc__law_take_atmost.nd rfl (by first | exact Or.inl rfl | exact Or.inr rfl) (de_callG G__law_take_number hr (by omega) (by rfl) (da_cons (de_var 0) (da_cons de_int (da_cons de_int da_nil)))))
    (dss_cons (ds_if (dt_cmpR (od_eq hu) (de_var 4) de_int (by rfl)) (dss_one (ds_asg (de_op od_add (de_ix hu (de_var 0) de_int (fun _ _ => rfl)) de_int) (dg_sub hu (de_var 0) de_int))) dss_nil)
    (dss_one (ds_ret (de_tup (da_cons de_str (da_cons (de_var 1) (da_cons (de_var 2) (da_cons (de_ifExp (dt_cmpR (od_eq hu) (de_var 3) de_str (by rfl)) (de_var 4) (de_neg (de_var 4))) da_nil)))))))))))))))
theorem good__law_take_atmost {sp : P1} {sp__law_take_side : P1} {sp__law_take : P1} {sp__law_see : P1} {sp__law_take_number : P1} (T : TopF K mg "_law_take_atmost" "_law_take_atmost" s__law_take_atmost ["_law_c"]) (B : Blt w K mg) (G__law_take_side : Good P w K mg base 4 "_law_take_side" ["_law_c"] sp__law_take_side) (G__law_take : Good P w K mg base 2 "_law_take" ["_law_c", "_law_word_here"] sp__law_take) (G__law_see : Good P w K mg base 1 "_law_see" ["_law_c"] sp__law_see) (G__law_take_number : Good P w K mg base 2 "_law_take_number" ["_law_c", "_law_low", "_law_high"] sp__law_take_number) (len : ∀ ds h Q, sp ds h Q → ds.length = 1) (sat : ∀ ds h Q, sp ds h Q → rd__law_take_atmost sp__law_take_side sp__law_take sp__law_see sp__law_take_number (endN Q) (startD 5 ds) h) : Good P w K mg base 5 "_law_take_atmost" ["_law_c"] sp :=
  good_ok T sc__law_take_atmost len (body__law_take_atmost B G__law_take_side G__law_take G__law_see G__law_take_number) sat
theorem body__law_take_fact {sp__law_see : P1} {sp__law_take_name : P1} {sp__law_take_atmost : P1} {sp__law_take : P1} (B : Blt w K mg) (G__law_see : Good P w K mg base 1 "_law_see" ["_law_c"] sp__law_see) (G__law_take_name : Good P w K mg base 3 "_law_take_name" ["_law_c"] sp__law_take_name) (G__law_take_atmost : Good P w K mg base 5 "_law_take_atmost" ["_law_c"] sp__law_take_atmost) (G__law_take : Good P w K mg base 2 "_law_take" ["_law_c", "_law_word_here"] sp__law_take) (f : Addr) (cdv : Value) (A : Around) (outer : List Env) (s : Shared) (H : Hp) (E : XK) (hr : RoomG 5 (A.deeper (envOfC "_law_take_fact" (defScope s__law_take_fact) s.heap.objs.size f cdv))) :
    DSs (cxOf CX0 P w K mg base ["_law_c", "_law_word_here", "_law_name"] "_law_take_fact" (defScope s__law_take_fact) f cdv A outer s H E).nox (defBody s__law_take_fact) (rd__law_take_fact sp__law_see sp__law_take_name sp__law_take_atmost sp__law_take) := by
  have hu := hr.r.units
  have hu5 : (A.deeper (envOfC "_law_take_fact" (defScope s__law_take_fact) s.heap.objs.size f cdv)).units + 65 < cLine := by have := hr.r.un; omega
  exact (dss_cons (ds_set 1 sc__law_take_fact.nd rfl (by first | exact Or.inl rfl | exact Or.inr rfl) (de_callG G__law_see hr (by omega) (by rfl) (da_cons (de_var 0) da_nil)))
    (dss_cons (ds_if (dt_w (dw_and (dt_cmpR (od_in hu5) (de_var 1) (de_lst (da_cons de_str (da_cons de_str (da_cons de_str da_nil)))) (by rfl)) (dw_and1 (dt_cmpR (od_eq hu) (de_slice (de_ix hu (de_var 0) de_int (fun _ _ => rfl)) (do_some (de_op od_add (de_ix hu (de_var 0) de_int (fun _ _ => rfl)) de_int)) (do_some (de_op od_add (de_ix hu (de_var 0) de_int (fun _ _ => rfl)) de_int))) (de_lst (da_cons de_str da_nil)) (by rfl))))) (dss_cons (ds_asg (de_op od_add (de_ix hu (de_var 0) de_int (fun _ _ => rfl)) de_int) (dg_sub hu (de_var 0) de_int))
    (dss_cons (ds_set 2 sc__law_take_fact.nd rfl (by first | exact Or.inl rfl | exact Or.inr rfl) (de_callG G__law_take_name hr (by omega) (by rfl) (da_cons (de_var 0) da_nil)))
    (dss_one (ds_ret (de_ifExp (dt_cmpR (od_eq hu) (de_var 1) de_str (by rfl)) (de_tup (da_cons de_str (da_cons (de_var 2) da_nil))) (de_tup (da_cons de_str (da_cons (de_var 1) (da_cons (de_var 2) da_nil))))))))) dss_nil)
    (dss_cons (ds_if (dt_cmpR (od_notIn hu5) (de_var 1) (de_lst (da_cons de_str (da_cons de_str (da_cons de_str da_nil)))) (by rfl)) (dss_one (ds_ret (de_callG G__law_take_atmost hr (by omega) (by rfl) (da_cons (de_var 0) da_nil)))) dss_nil)
    (dss_cons (ds_asg (de_op od_add (de_ix hu (de_var 0) de_int (fun _ _ => rfl)) de_int) (dg_sub hu (de_var 0) de_int))
    (dss_cons (ds_if (dt_cmpR (od_eq hu) (de_var 1) de_str (by rfl)) (dss_one (ds_ret (de_tup (da_cons de_str da_nil)))) dss_nil)
    (dss_cons (ds_set 2 sc__law_take_fact.nd rfl (by first | exact Or.inl rfl | exact Or.inr rfl) (de_callG G__law_take_name hr (by omega) (by rfl) (da_cons (de_var 0) da_nil)))
    (dss_cons (ds_if (dt_cmpR (od_eq hu) (de_var 1) de_str (by rfl)) (dss_one (ds_ret (de_tup (da_cons de_str (da_cons (de_var 2) da_nil))))) dss_nil)
    (dss_cons (ds_expr (de_callG G__law_take hr (by omega) (by rfl) (da_cons (de_var 0) (da_cons de_str da_nil))))
    (dss_cons (ds_if (dt_w (dw_and (dt_not (dt_tru (de_ix hu (de_var 0) de_int (fun _ _ => rfl)))) (dw_and1 (dt_cmpR (od_eq hu) (de_callG G__law_see hr (by omega) (by rfl) (da_cons (de_var 0) da_nil)) de_str (by rfl))))) (dss_cons (ds_asg (de_op od_add (de_ix hu (de_var 0) de_int (fun _ _ => rfl)) de_int) (dg_sub hu (de_var 0) de_int))
    (dss_one (ds_ret (de_tup (da_cons de_str (da_cons (de_var 2) (da_cons de_str da_nil))))))) dss_nil)
    (dss_one (ds_ret (de_tup (da_cons de_str (da_cons (de_var 2) (da_cons (de_callG G__law_take_name hr (by omega) (by rfl) (da_cons (de_var 0) da_nil)) da_nil)))))))))))))))
theorem good__law_take_fact {sp : P1} {sp__law_see : P1} {sp__law_take_name : P1} {sp__law_take_atmost : P1} {sp__law_take : P1} (T : TopF K mg "_law_take_fact" "_law_take_fact" s__law_take_fact ["_law_c"]) (B : Blt w K mg) (G__law_see : Good P w K mg base 1 "_law_see" ["_law_c"] sp__law_see) (G__law_take_name : Good P w K mg base 3 "_law_take_name" ["_law_c"] sp__law_take_name) (G__law_take_atmost : Good P w K mg base 5 "_law_take_atmost" ["_law_c"] sp__law_take_atmost) (G__law_take : Good P w K mg base 2 "_law_take" ["_law_c", "_law_word_here"] sp__law_take) (len : ∀ ds h Q, sp ds h Q → ds.length = 1) (sat : ∀ ds h Q, sp ds h Q → rd__law_take_fact sp__law_see sp__law_take_name sp__law_take_atmost sp__law_take (endN Q) (startD 3 ds) h) : Good P w K mg base 6 "_law_take_fact" ["_law_c"] sp :=
  good_ok T sc__law_take_fact len (body__law_take_fact B G__law_see G__law_take_name G__law_take_atmost G__law_take) sat
theorem body__law_take_cond {sp__law_see : P1} {sp__law_take_fact : P1} {sp__law_fold : P1} (B : Blt w K mg) (G__law_see : Good P w K mg base 1 "_law_see" ["_law_c"] sp__law_see) (G__law_take_fact : Good P w K mg base 6 "_law_take_fact" ["_law_c"] sp__law_take_fact) (G__law_fold : Good P w K mg base 1 "_law_fold" ["_law_values", "_law_waits", "_law_words"] sp__law_fold) (f : Addr) (cdv : Value) (A : Around) (outer : List Env) (s : Shared) (H : Hp) (E : XK) (hr : RoomG 6 (A.deeper (envOfC "_law_take_cond" (defScope s__law_take_cond) s.heap.objs.size f cdv))) :
    DSs (cxOf CX0 P w K mg base ["_law_c", "_law_values", "_law_waits", "_law_ready", "_law_k", "_law_word_here", "_law_turn"] "_law_take_cond" (defScope s__law_take_cond) f cdv A outer s H E).nox (defBody s__law_take_cond) (rd__law_take_cond sp__law_see sp__law_take_fact sp__law_fold) := by
  have hu := hr.r.units
  have hu5 : (A.deeper (envOfC "_law_take_cond" (defScope s__law_take_cond) s.heap.objs.size f cdv)).units + 65 < cLine := by have := hr.r.un; omega
  exact (dss_cons (ds_set 1 sc__law_take_cond.nd rfl (by first | exact Or.inl rfl | exact Or.inr rfl) (de_lst da_nil))
    (dss_cons (ds_set 2 sc__law_take_cond.nd rfl (by first | exact Or.inl rfl | exact Or.inr rfl) (de_lst da_nil))
    (dss_cons (ds_set 3 sc__law_take_cond.nd rfl (by first | exact Or.inl rfl | exact Or.inr rfl) de_bl)
    (dss_cons (ds_for PassesOwn.never (by rfl) (di_range1 (by rfl) B.n_range (da_cons (de_op od_add (de_callB xd_len (by rfl) B.n_len (by decide +kernel) (da_cons (de_ix hu (de_var 0) de_int (fun _ _ => rfl)) da_nil)) de_int) da_nil)) (dg_name 4 okAt0 sc__law_take_cond.nd rfl (by first | exact Or.inl rfl | exact Or.inr rfl)) (dss_cons (ds_set 5 sc__law_take_cond.nd rfl (by first | exact Or.inl rfl | exact Or.inr rfl) (de_callG G__law_see hr (by omega) (by rfl) (da_cons (de_var 0) da_nil)))
    (dss_cons (ds_if (dt_w (dw_and (dt_not (dt_tru (de_var 3))) (dw_and1 (dt_cmpR (od_in hu5) (de_var 5) (de_lst (da_cons de_str (da_cons de_str da_nil))) (by rfl))))) (dss_cons (ds_expr (de_lm PySem.F.slot_list_append PySem.F.type_list_append xm_append (de_var 2) (da_cons (de_var 5) da_nil)))
    (dss_one (ds_asg (de_op od_add (de_ix hu (de_var 0) de_int (fun _ _ => rfl)) de_int) (dg_sub hu (de_var 0) de_int)))) (dss_one (ds_if (dt_not (dt_tru (de_var 3))) (dss_cons (ds_expr (de_lm PySem.F.slot_list_append PySem.F.type_list_append xm_append (de_var 1) (da_cons (de_callG G__law_take_fact hr (by omega) (by rfl) (da_cons (de_var 0) da_nil)) da_nil)))
    (dss_one (ds_set 3 sc__law_take_cond.nd rfl (by first | exact Or.inl rfl | exact Or.inr rfl) de_bl))) (dss_one (ds_if (dt_cmpR (od_in hu5) (de_var 5) (de_lst (da_cons de_str (da_cons de_str da_nil))) (by rfl)) (dss_cons (ds_expr (de_callG G__law_fold hr (by omega) (by rfl) (da_cons (de_var 1) (da_cons (de_var 2) (da_cons (de_ifExp (dt_cmpR (od_eq hu) (de_var 5) de_str (by rfl)) (de_lst (da_cons de_str da_nil)) (de_lst (da_cons de_str (da_cons de_str da_nil)))) da_nil)))))
    (dss_cons (ds_expr (de_lm PySem.F.slot_list_append PySem.F.type_list_append xm_append (de_var 2) (da_cons (de_var 5) da_nil)))
    (dss_cons (ds_asg (de_op od_add (de_ix hu (de_var 0) de_int (fun _ _ => rfl)) de_int) (dg_sub hu (de_var 0) de_int))
    (dss_one (ds_set 3 sc__law_take_cond.nd rfl (by first | exact Or.inl rfl | exact Or.inr rfl) de_bl))))) (dss_one (ds_if (dt_w (dw_and (dt_cmpR (od_eq hu) (de_var 5) de_str (by rfl)) (dw_and1 (dt_cmpR (od_in hu5) de_str (de_var 2) (by rfl))))) (dss_cons (ds_expr (de_callG G__law_fold hr (by omega) (by rfl) (da_cons (de_var 1) (da_cons (de_var 2) (da_cons (de_lst (da_cons de_str (da_cons de_str da_nil))) da_nil)))))
    (dss_cons (ds_expr (de_lm0 PySem.F.slot_list_pop PySem.F.type_list_pop xm_pop (de_var 2)))
    (dss_one (ds_asg (de_op od_add (de_ix hu (de_var 0) de_int (fun _ _ => rfl)) de_int) (dg_sub hu (de_var 0) de_int))))) (dss_one ds_break))))))))
    (dss_cons (ds_if (dt_tru (de_ix hu (de_var 0) de_int (fun _ _ => rfl))) (dss_one (ds_ret (de_tup da_nil))) dss_nil)
    (dss_one (ds_for PassesOwn.never (by rfl) (di_range1 (by rfl) B.n_range (da_cons (de_callB xd_len (by rfl) B.n_len (by decide +kernel) (da_cons (de_var 2) da_nil)) da_nil)) (dg_name 6 okAt0 sc__law_take_cond.nd rfl (by first | exact Or.inl rfl | exact Or.inr rfl)) (dss_one (ds_if (dt_w (dw_and (dt_tru (de_var 3)) (dw_and (dt_cmpR od_gt (de_callB xd_len (by rfl) B.n_len (by decide +kernel) (da_cons (de_var 2) da_nil)) de_int (by rfl)) (dw_and1 (dt_cmpR (od_eq hu) (de_ix hu (de_var 2) (de_neg de_int) (fun _ _ => rfl)) de_str (by rfl)))))) (dss_cons (ds_expr (de_lm0 PySem.F.slot_list_pop PySem.F.type_list_pop xm_pop (de_var 2)))
    (dss_one (ds_expr (de_lm PySem.F.slot_list_append PySem.F.type_list_append xm_append (de_var 1) (da_cons (de_tup (da_cons de_str (da_cons (de_lm0 PySem.F.slot_list_pop PySem.F.type_list_pop xm_pop (de_var 1)) da_nil))) da_nil))))) dss_nil))))))))
    (dss_cons (ds_if (dt_cmpR (od_in hu5) de_str (de_var 2) (by rfl)) (dss_cons (ds_asg de_bl (dg_sub hu (de_var 0) de_int))
    (dss_one (ds_ret (de_tup da_nil)))) dss_nil)
    (dss_cons (ds_expr (de_callG G__law_fold hr (by omega) (by rfl) (da_cons (de_var 1) (da_cons (de_var 2) (da_cons (de_lst (da_cons de_str (da_cons de_str da_nil))) da_nil)))))
    (dss_one (ds_ret (de_ix hu (de_var 1) de_int (fun _ _ => rfl))))))))))
theorem good__law_take_cond {sp : P1} {sp__law_see : P1} {sp__law_take_fact : P1} {sp__law_fold : P1} (T : TopF K mg "_law_take_cond" "_law_take_cond" s__law_take_cond ["_law_c"]) (B : Blt w K mg) (G__law_see : Good P w K mg base 1 "_law_see" ["_law_c"] sp__law_see) (G__law_take_fact : Good P w K mg base 6 "_law_take_fact" ["_law_c"] sp__law_take_fact) (G__law_fold : Good P w K mg base 1 "_law_fold" ["_law_values", "_law_waits", "_law_words"] sp__law_fold) (len : ∀ ds h Q, sp ds h Q → ds.length = 1) (sat : ∀ ds h Q, sp ds h Q → rd__law_take_cond sp__law_see sp__law_take_fact sp__law_fold (endN Q) (startD 7 ds) h) : Good P w K mg base 7 "_law_take_cond" ["_law_c"] sp :=
  good_ok T sc__law_take_cond len (body__law_take_cond B G__law_see G__law_take_fact G__law_fold) sat
theorem body__law_whole {sp__law_take_cond : P1} (B : Blt w K mg) (G__law_take_cond : Good P w K mg base 7 "_law_take_cond" ["_law_c"] sp__law_take_cond) (f : Addr) (cdv : Value) (A : Around) (outer : List Env) (s : Shared) (H : Hp) (E : XK) (hr : RoomG 7 (A.deeper (envOfC "_law_whole" (defScope s__law_whole) s.heap.objs.size f cdv))) :
    DSs (cxOf CX0 P w K mg base ["_law_words", "_law_c", "_law_cond"] "_law_whole" (defScope s__law_whole) f cdv A outer s H E).nox (defBody s__law_whole) (rd__law_whole sp__law_take_cond) := by
  have hu := hr.r.units
  have hu5 : (A.deeper (envOfC "_law_whole" (defScope s__law_whole) s.heap.objs.size f cdv)).units + 65 < cLine := by have := hr.r.un; omega
  exact (dss_cons (ds_set 1 sc__law_whole.nd rfl (by first | exact Or.inl rfl | exact Or.inr rfl) (de_lst (da_cons (de_var 0) (da_cons de_int (da_cons de_bl (da_cons de_int da_nil))))))
    (dss_cons (ds_set 2 sc__law_whole.nd rfl (by first | exact Or.inl rfl | exact Or.inr rfl) (de_callG G__law_take_cond hr (by omega) (by rfl) (da_cons (de_var 1) da_nil)))
    (dss_one (ds_ret (de_ifExp (dt_w (dw_or (dt_tru (de_ix hu (de_var 1) de_int (fun _ _ => rfl))) (dw_or (dt_cmpR od_lt (de_ix hu (de_var 1) de_int (fun _ _ => rfl)) (de_callB xd_len (by rfl) B.n_len (by decide +kernel) (da_cons (de_var 0) da_nil)) (by rfl)) (dw_or1 (dt_cmpR od_gt (de_ix hu (de_var 1) de_int (fun _ _ => rfl)) de_int (by rfl)))))) de_non (de_var 2))))))
theorem good__law_whole {sp : P1} {sp__law_take_cond : P1} (T : TopF K mg "_law_whole" "_law_whole" s__law_whole ["_law_words"]) (B : Blt w K mg) (G__law_take_cond : Good P w K mg base 7 "_law_take_cond" ["_law_c"] sp__law_take_cond) (len : ∀ ds h Q, sp ds h Q → ds.length = 1) (sat : ∀ ds h Q, sp ds h Q → rd__law_whole sp__law_take_cond (endN Q) (startD 3 ds) h) : Good P w K mg base 8 "_law_whole" ["_law_words"] sp :=
  good_ok T sc__law_whole len (body__law_whole B G__law_take_cond) sat
theorem body_cond_tokens {sp_enclosed : P1} {sp_cond_tokens : P1} {sp_atom_tokens : P1} (B : Blt w K mg) {d : Nat} (G_enclosed : Good P w K mg base 1 "enclosed" ["tokens", "level", "needed"] sp_enclosed) (G_cond_tokens : Good P w K mg base (3 + d) "cond_tokens" ["cond", "needed"] sp_cond_tokens) (G_atom_tokens : Good P w K mg base 2 "atom_tokens" ["cond"] sp_atom_tokens) (f : Addr) (cdv : Value) (A : Around) (outer : List Env) (s : Shared) (H : Hp) (E : XK) (hr : RoomG (3 + d) (A.deeper (envOfC "cond_tokens" (defScope s_cond_tokens) s.heap.objs.size f cdv))) :
    DSs (cxOf CX0 P w K mg base ["cond", "needed", "word"] "cond_tokens" (defScope s_cond_tokens) f cdv A outer s H E).nox (defBody s_cond_tokens) (rd_cond_tokens sp_enclosed sp_cond_tokens sp_atom_tokens) := by
  have hu := hr.r.units
  have hu5 : (A.deeper (envOfC "cond_tokens" (defScope s_cond_tokens) s.heap.objs.size f cdv)).units + 65 < cLine := by have := hr.r.un; omega
  exact (dss_cons (ds_set 2 sc_cond_tokens.nd rfl (by first | exact Or.inl rfl | exact Or.inr rfl) (de_ix hu (de_var 0) de_int (fun _ _ => rfl)))
    (dss_cons (ds_if (dt_cmpR (od_eq hu) (de_var 2) de_str (by rfl)) (dss_one (ds_ret (de_callG G_enclosed hr (by omega) (by rfl) (da_cons (de_op od_add (de_op od_add (de_callG G_cond_tokens hr (by omega) (by rfl) (da_cons (de_ix hu (de_var 0) de_int (fun _ _ => rfl)) (da_cons de_int da_nil))) (de_lst (da_cons de_str da_nil))) (de_callG G_cond_tokens hr (by omega) (by rfl) (da_cons (de_ix hu (de_var 0) de_int (fun _ _ => rfl)) (da_cons de_int da_nil)))) (da_cons de_int (da_cons (de_var 1) da_nil)))))) dss_nil)
    (dss_cons (ds_if (dt_cmpR (od_eq hu) (de_var 2) de_str (by rfl)) (dss_one (ds_ret (de_callG G_enclosed hr (by omega) (by rfl) (da_cons (de_op od_add (de_op od_add (de_callG G_cond_tokens hr (by omega) (by rfl) (da_cons (de_ix hu (de_var 0) de_int (fun _ _ => rfl)) (da_cons de_int da_nil))) (de_lst (da_cons de_str da_nil))) (de_callG G_cond_tokens hr (by omega) (by rfl) (da_cons (de_ix hu (de_var 0) de_int (fun _ _ => rfl)) (da_cons de_int da_nil)))) (da_cons de_int (da_cons (de_var 1) da_nil)))))) dss_nil)
    (dss_cons (ds_if (dt_cmpR (od_eq hu) (de_var 2) de_str (by rfl)) (dss_one (ds_ret (de_op od_add (de_lst (da_cons de_str da_nil)) (de_callG G_cond_tokens hr (by omega) (by rfl) (da_cons (de_ix hu (de_var 0) de_int (fun _ _ => rfl)) (da_cons de_int da_nil)))))) dss_nil)
    (dss_one (ds_ret (de_callG G_atom_tokens hr (by omega) (by rfl) (da_cons (de_var 0) da_nil))))))))
theorem good_cond_tokens {sp : P1} {sp_enclosed : P1} {sp_cond_tokens : P1} {sp_atom_tokens : P1} (T : TopF K mg "cond_tokens" "cond_tokens" s_cond_tokens ["cond", "needed"]) (B : Blt w K mg) {d : Nat} (G_enclosed : Good P w K mg base 1 "enclosed" ["tokens", "level", "needed"] sp_enclosed) (G_cond_tokens : Good P w K mg base (3 + d) "cond_tokens" ["cond", "needed"] sp_cond_tokens) (G_atom_tokens : Good P w K mg base 2 "atom_tokens" ["cond"] sp_atom_tokens) (len : ∀ ds h Q, sp ds h Q → ds.length = 2) (sat : ∀ ds h Q, sp ds h Q → rd_cond_tokens sp_enclosed sp_cond_tokens sp_atom_tokens (endN Q) (startD 3 ds) h) : Good P w K mg base (3 + d + 1) "cond_tokens" ["cond", "needed"] sp :=
  good_ok T sc_cond_tokens len (body_cond_tokens B G_enclosed G_cond_tokens G_atom_tokens) sat
theorem body_policy_tokens {sp_act_tokens : P1} {sp_cond_tokens : P1} (B : Blt w K mg) (G_act_tokens : Good P w K mg base 1 "act_tokens" ["acts"] sp_act_tokens) (G_cond_tokens : Good P w K mg base 17 "cond_tokens" ["cond", "needed"] sp_cond_tokens) (f : Addr) (cdv : Value) (A : Around) (outer : List Env) (s : Shared) (H : Hp) (E : XK) (hr : RoomG 17 (A.deeper (envOfC "policy_tokens" (defScope s_policy_tokens) s.heap.objs.size f cdv))) :
    DSs (cxOf CX0 P w K mg base ["line", "word", "name", "rank", "askers", "acts", "things", "cond", "duties", "front"] "policy_tokens" (defScope s_policy_tokens) f cdv A outer s H E).nox (defBody s_policy_tokens) (rd_policy_tokens sp_act_tokens sp_cond_tokens) := by
  have hu := hr.r.units
  have hu5 : (A.deeper (envOfC "policy_tokens" (defScope s_policy_tokens) s.heap.objs.size f cdv)).units + 65 < cLine := by have := hr.r.un; omega
  exact (dss_cons (ds_asg (de_var 0) (dg_tup (by rfl) (dgs_cons (dg_name 1 okAt0 sc_policy_tokens.nd rfl (by first | exact Or.inl rfl | exact Or.inr rfl)) (dgs_cons (dg_name 2 okAt0 sc_policy_tokens.nd rfl (by first | exact Or.inl rfl | exact Or.inr rfl)) (dgs_cons (dg_name 3 okAt0 sc_policy_tokens.nd rfl (by first | exact Or.inl rfl | exact Or.inr rfl)) (dgs_cons (dg_name 4 okAt0 sc_policy_tokens.nd rfl (by first | exact Or.inl rfl | exact Or.inr rfl)) (dgs_cons (dg_name 5 okAt0 sc_policy_tokens.nd rfl (by first | exact Or.inl rfl | exact Or.inr rfl)) (dgs_cons (dg_name 6 okAt0 sc_policy_tokens.nd rfl (by first | exact Or.inl rfl | exact Or.inr rfl)) (dgs_cons (dg_name 7 okAt0 sc_policy_tokens.nd rfl (by first | exact Or.inl rfl | exact Or.inr rfl)) (dgs_cons (dg_name 8 okAt0 sc_policy_tokens.nd rfl (by first | exact Or.inl rfl | exact Or.inr rfl)) dgs_nil))))))))))
    (dss_cons (ds_set 9 sc_policy_tokens.nd rfl (by first | exact Or.inl rfl | exact Or.inr rfl) (de_op od_add (de_op od_add (de_op od_add (de_op od_add (de_op od_add (de_lst (da_cons (de_var 1) (da_cons (de_var 2) (da_cons de_str (da_cons (de_callTy xd_str (by rfl) B.n_str (by decide +kernel) (da_cons (de_var 3) da_nil)) da_nil))))) (de_callTy xd_list (by rfl) B.n_list (by decide +kernel) (da_cons (de_var 4) da_nil))) (de_lst (da_cons de_str da_nil))) (de_callG G_act_tokens hr (by omega) (by rfl) (da_cons (de_var 5) da_nil))) (de_lst (da_cons de_str da_nil))) (de_callTy xd_list (by rfl) B.n_list (by decide +kernel) (da_cons (de_var 6) da_nil))))
    (dss_one (ds_ret (de_op od_add (de_op od_add (de_op od_add (de_var 9) (de_lst (da_cons de_str da_nil))) (de_callG G_cond_tokens hr (by omega) (by rfl) (da_cons (de_var 7) (da_cons de_int da_nil)))) (de_ifExp (dt_tru (de_var 8)) (de_op od_add (de_lst (da_cons de_str da_nil)) (de_callTy xd_list (by rfl) B.n_list (by decide +kernel) (da_cons (de_var 8) da_nil))) (de_lst da_nil)))))))
theorem good_policy_tokens {sp : P1} {sp_act_tokens : P1} {sp_cond_tokens : P1} (T : TopF K mg "policy_tokens" "policy_tokens" s_policy_tokens ["line"]) (B : Blt w K mg) (G_act_tokens : Good P w K mg base 1 "act_tokens" ["acts"] sp_act_tokens) (G_cond_tokens : Good P w K mg base 17 "cond_tokens" ["cond", "needed"] sp_cond_tokens) (len : ∀ ds h Q, sp ds h Q → ds.length = 1) (sat : ∀ ds h Q, sp ds h Q → rd_policy_tokens sp_act_tokens sp_cond_tokens (endN Q) (startD 10 ds) h) : Good P w K mg base 18 "policy_tokens" ["line"] sp :=
  good_ok T sc_policy_tokens len (body_policy_tokens B G_act_tokens G_cond_tokens) sat
theorem body_write_cond {sp_cond_tokens : P1} (B : Blt w K mg) (G_cond_tokens : Good P w K mg base 17 "cond_tokens" ["cond", "needed"] sp_cond_tokens) (f : Addr) (cdv : Value) (A : Around) (outer : List Env) (s : Shared) (H : Hp) (E : XK) (hr : RoomG 17 (A.deeper (envOfC "write_cond" (defScope s_write_cond) s.heap.objs.size f cdv))) :
    DSs (cxOf CX0 P w K mg base ["cond"] "write_cond" (defScope s_write_cond) f cdv A outer s H E).nox (defBody s_write_cond) (rd_write_cond sp_cond_tokens) := by
  have hu := hr.r.units
  have hu5 : (A.deeper (envOfC "write_cond" (defScope s_write_cond) s.heap.objs.size f cdv)).units + 65 < cLine := by have := hr.r.un; omega
  exact (dss_one (ds_ret (de_join de_str (de_callG G_cond_tokens hr (by omega) (by rfl) (da_cons (de_var 0) (da_cons de_int da_nil))))))
theorem good_write_cond {sp : P1} {sp_cond_tokens : P1} (T : TopF K mg "write_cond" "write_cond" s_write_cond ["cond"]) (B : Blt w K mg) (G_cond_tokens : Good P w K mg base 17 "cond_tokens" ["cond", "needed"] sp_cond_tokens) (len : ∀ ds h Q, sp ds h Q → ds.length = 1) (sat : ∀ ds h Q, sp ds h Q → rd_write_cond sp_cond_tokens (endN Q) (startD 1 ds) h) : Good P w K mg base 18 "write_cond" ["cond"] sp :=
  good_ok T sc_write_cond len (body_write_cond B G_cond_tokens) sat
theorem body_line_tokens {sp_test_tokens : P1} {sp_any_walk_tokens : P1} {sp_cond_tokens : P1} {sp_policy_tokens : P1} (B : Blt w K mg) (G_test_tokens : Good P w K mg base 1 "test_tokens" ["tests"] sp_test_tokens) (G_any_walk_tokens : Good P w K mg base 4 "any_walk_tokens" ["walk"] sp_any_walk_tokens) (G_cond_tokens : Good P w K mg base 17 "cond_tokens" ["cond", "needed"] sp_cond_tokens) (G_policy_tokens : Good P w K mg base 18 "policy_tokens" ["line"] sp_policy_tokens) (f : Addr) (cdv : Value) (A : Around) (outer : List Env) (s : Shared) (H : Hp) (E : XK) (hr : RoomG 18 (A.deeper (envOfC "line_tokens" (defScope s_line_tokens) s.heap.objs.size f cdv))) :
    DSs (cxOf CX0 P w K mg base ["line", "word"] "line_tokens" (defScope s_line_tokens) f cdv A outer s H E).nox (defBody s_line_tokens) (rd_line_tokens sp_test_tokens sp_any_walk_tokens sp_cond_tokens sp_policy_tokens) := by
  have hu := hr.r.units
  have hu5 : (A.deeper (envOfC "line_tokens" (defScope s_line_tokens) s.heap.objs.size f cdv)).units + 65 < cLine := by have := hr.r.un; omega
  exact (dss_cons (ds_set 1 sc_line_tokens.nd rfl (by first | exact Or.inl rfl | exact Or.inr rfl) (de_ix hu (de_var 0) de_int (fun _ _ => rfl)))
    (dss_cons (ds_if (dt_cmpR (od_in hu5) (de_var 1) (de_globT (by rfl) B.k_NAME_LINES okk_NAME_LINES) (by rfl)) (dss_one (ds_ret (de_op od_add (de_lst (da_cons (de_var 1) da_nil)) (de_callTy xd_list (by rfl) B.n_list (by decide +kernel) (da_cons (de_ix hu (de_var 0) de_int (fun _ _ => rfl)) da_nil))))) dss_nil)
    (dss_cons (ds_if (dt_cmpR (od_in hu5) (de_var 1) (de_tup (da_cons de_str (da_cons de_str da_nil))) (by rfl)) (dss_one (ds_ret (de_op od_add (de_lst (da_cons (de_var 1) (da_cons (de_ix hu (de_var 0) de_int (fun _ _ => rfl)) (da_cons de_str da_nil)))) (de_callTy xd_list (by rfl) B.n_list (by decide +kernel) (da_cons (de_ix hu (de_var 0) de_int (fun _ _ => rfl)) da_nil))))) dss_nil)
    (dss_cons (ds_if (dt_cmpR (od_eq hu) (de_var 1) de_str (by rfl)) (dss_one (ds_ret (de_op od_add (de_op od_add (de_op od_add (de_lst (da_cons (de_var 1) (da_cons (de_ix hu (de_var 0) de_int (fun _ _ => rfl)) (da_cons de_str da_nil)))) (de_callTy xd_list (by rfl) B.n_list (by decide +kernel) (da_cons (de_ix hu (de_var 0) de_int (fun _ _ => rfl)) da_nil))) (de_lst (da_cons de_str da_nil))) (de_callTy xd_list (by rfl) B.n_list (by decide +kernel) (da_cons (de_ix hu (de_var 0) de_int (fun _ _ => rfl)) da_nil))))) dss_nil)
    (dss_cons (ds_if (dt_cmpR (od_eq hu) (de_var 1) de_str (by rfl)) (dss_one (ds_ret (de_op od_add (de_op od_add (de_op od_add (de_lst (da_cons (de_var 1) (da_cons (de_ix hu (de_var 0) de_int (fun _ _ => rfl)) da_nil))) (de_callG G_test_tokens hr (by omega) (by rfl) (da_cons (de_ix hu (de_var 0) de_int (fun _ _ => rfl)) da_nil))) (de_lst (da_cons de_str da_nil))) (de_callG G_test_tokens hr (by omega) (by rfl) (da_cons (de_ix hu (de_var 0) de_int (fun _ _ => rfl)) da_nil))))) dss_nil)
    (dss_cons (ds_if (dt_cmpR (od_eq hu) (de_var 1) de_str (by rfl)) (dss_one (ds_ret (de_op od_add (de_lst (da_cons (de_var 1) (da_cons (de_ix hu (de_var 0) de_int (fun _ _ => rfl)) (da_cons de_str da_nil)))) (de_callG G_any_walk_tokens hr (by omega) (by rfl) (da_cons (de_ix hu (de_var 0) de_int (fun _ _ => rfl)) da_nil))))) dss_nil)
    (dss_cons (ds_if (dt_cmpR (od_eq hu) (de_var 1) de_str (by rfl)) (dss_one (ds_ret (de_op od_add (de_lst (da_cons (de_var 1) (da_cons (de_ix hu (de_var 0) de_int (fun _ _ => rfl)) (da_cons de_str da_nil)))) (de_callG G_cond_tokens hr (by omega) (by rfl) (da_cons (de_ix hu (de_var 0) de_int (fun _ _ => rfl)) (da_cons de_int da_nil)))))) dss_nil)
    (dss_cons (ds_if (dt_cmpR (od_eq hu) (de_var 1) de_str (by rfl)) (dss_one (ds_ret (de_op od_add (de_lst (da_cons (de_var 1) (da_cons (de_ix hu (de_var 0) de_int (fun _ _ => rfl)) (da_cons de_str da_nil)))) (de_callTy xd_list (by rfl) B.n_list (by decide +kernel) (da_cons (de_ix hu (de_var 0) de_int (fun _ _ => rfl)) da_nil))))) dss_nil)
    (dss_cons (ds_if (dt_cmpR (od_eq hu) (de_var 1) de_str (by rfl)) (dss_one (ds_ret (de_lst (da_cons (de_var 1) (da_cons (de_ix hu (de_var 0) de_int (fun _ _ => rfl)) (da_cons de_str (da_cons (de_ix hu (de_var 0) de_int (fun _ _ => rfl)) (da_cons de_str (da_cons (de_ix hu (de_var 0) de_int (fun _ _ => rfl)) da_nil))))))))) dss_nil)
    (dss_one (ds_ret (de_callG G_policy_tokens hr (by omega) (by rfl) (da_cons (de_var 0) da_nil)))))))))))))
theorem good_line_tokens {sp : P1} {sp_test_tokens : P1} {sp_any_walk_tokens : P1} {sp_cond_tokens : P1} {sp_policy_tokens : P1} (T : TopF K mg "line_tokens" "line_tokens" s_line_tokens ["line"]) (B : Blt w K mg) (G_test_tokens : Good P w K mg base 1 "test_tokens" ["tests"] sp_test_tokens) (G_any_walk_tokens : Good P w K mg base 4 "any_walk_tokens" ["walk"] sp_any_walk_tokens) (G_cond_tokens : Good P w K mg base 17 "cond_tokens" ["cond", "needed"] sp_cond_tokens) (G_policy_tokens : Good P w K mg base 18 "policy_tokens" ["line"] sp_policy_tokens) (len : ∀ ds h Q, sp ds h Q → ds.length = 1) (sat : ∀ ds h Q, sp ds h Q → rd_line_tokens sp_test_tokens sp_any_walk_tokens sp_cond_tokens sp_policy_tokens (endN Q) (startD 2 ds) h) : Good P w K mg base 19 "line_tokens" ["line"] sp :=
  good_ok T sc_line_tokens len (body_line_tokens B G_test_tokens G_any_walk_tokens G_cond_tokens G_policy_tokens) sat
theorem body_write {sp_line_tokens : P1} (B : Blt w K mg) (G_line_tokens : Good P w K mg base 19 "line_tokens" ["line"] sp_line_tokens) (f : Addr) (cdv : Value) (A : Around) (outer : List Env) (s : Shared) (H : Hp) (E : XK) (hr : RoomG 19 (A.deeper (envOfC "write" (defScope s_write) s.heap.objs.size f cdv))) :
    DSs (cxOf CX0 P w K mg base ["tree", "line"] "write" (defScope s_write) f cdv A outer s H E).nox (defBody s_write) (rd_write sp_line_tokens) := by
  have hu := hr.r.units
  have hu5 : (A.deeper (envOfC "write" (defScope s_write) s.heap.objs.size f cdv)).units + 65 < cLine := by have := hr.r.un; omega
  exact (dss_one (ds_ret (de_join de_str (de_lc (own := [("line", 1)]) (by rfl) sc_write.nd (di_seq (de_var 0)) (blkOk_by (own := [("line", 1)]) (N := ["tree", "line"]) (sc := defScope s_write) (by decide +kernel)) (fun _ _ _ _ _ => (dg_name 1 (okAtW (by decide)) sc_write.nd rfl (by first | exact Or.inl rfl | exact Or.inr rfl))) (fun _ _ _ _ _ => dts_nil) (fun _ _ _ _ _ => (de_op od_add (de_join de_str (de_op od_add (de_callG G_line_tokens hr (by omega) (by rfl) (da_cons (de_var 1) da_nil)) (de_lst (da_cons de_str da_nil)))) de_str))))))
theorem good_write {sp : P1} {sp_line_tokens : P1} (T : TopF K mg "write" "write" s_write ["tree"]) (B : Blt w K mg) (G_line_tokens : Good P w K mg base 19 "line_tokens" ["line"] sp_line_tokens) (len : ∀ ds h Q, sp ds h Q → ds.length = 1) (sat : ∀ ds h Q, sp ds h Q → rd_write sp_line_tokens (endN Q) (startD 2 ds) h) : Good P w K mg base 20 "write" ["tree"] sp :=
  good_ok T sc_write len (body_write B G_line_tokens) sat
theorem body__law_given {sp__law_draw : P1} {sp__law_fact : P1} {sp__law_given : P1} (B : Blt w K mg) {d : Nat} (G__law_draw : Good P w K mg base 1 "_law_draw" ["_law_d", "_law_many"] sp__law_draw) (G__law_fact : Good P w K mg base 5 "_law_fact" ["_law_d"] sp__law_fact) (G__law_given : Good P w K mg base (6 + d) "_law_given" ["_law_d", "_law_deep", "_law_room", "_law_tall"] sp__law_given) (f : Addr) (cdv : Value) (A : Around) (outer : List Env) (s : Shared) (H : Hp) (E : XK) (hr : RoomG (6 + d) (A.deeper (envOfC "_law_given" (defScope s__law_given) s.heap.objs.size f cdv))) :
    DSs (cxOf CX0 P w K mg base ["_law_d", "_law_deep", "_law_room", "_law_tall", "_law_way", "_law_first", "_law_second", "_law_word_here"] "_law_given" (defScope s__law_given) f cdv A outer s H E).nox (defBody s__law_given) (rd__law_given sp__law_draw sp__law_fact sp__law_given) := by
  have hu := hr.r.units
  have hu5 : (A.deeper (envOfC "_law_given" (defScope s__law_given) s.heap.objs.size f cdv)).units + 65 < cLine := by have := hr.r.un; omega
  exact (dss_cons (ds_asg (de_op od_sub (de_ix hu (de_var 2) de_int (fun _ _ => rfl)) de_int) (dg_sub hu (de_var 2) de_int))
    (dss_cons (ds_set 4 sc__law_given.nd rfl (by first | exact Or.inl rfl | exact Or.inr rfl) (de_callG G__law_draw hr (by omega) (by rfl) (da_cons (de_var 0) (da_cons de_int da_nil))))
    (dss_cons (ds_if (dt_w (dw_or (dt_cmpR (od_eq hu) (de_var 1) de_int (by rfl)) (dw_or1 (dt_w (dw_and (dt_not (dt_tru (de_var 3))) (dw_and1 (dt_w (dw_or (dt_cmpR od_lt (de_var 4) de_int (by rfl)) (dw_or1 (dt_cmpR od_lt (de_ix hu (de_var 2) de_int (fun _ _ => rfl)) de_int (by rfl))))))))))) (dss_one (ds_ret (de_callG G__law_fact hr (by omega) (by rfl) (da_cons (de_var 0) da_nil)))) dss_nil)
    (dss_cons (ds_if (dt_cmpR od_lt (de_var 4) de_int (by rfl)) (dss_one (ds_ret (de_tup (da_cons de_str (da_cons (de_callG G__law_given hr (by omega) (by rfl) (da_cons (de_var 0) (da_cons (de_op od_sub (de_var 1) de_int) (da_cons (de_var 2) (da_cons (de_var 3) da_nil))))) da_nil))))) dss_nil)
    (dss_cons (ds_set 5 sc__law_given.nd rfl (by first | exact Or.inl rfl | exact Or.inr rfl) (de_callG G__law_given hr (by omega) (by rfl) (da_cons (de_var 0) (da_cons (de_op od_sub (de_var 1) de_int) (da_cons (de_var 2) (da_cons (de_var 3) da_nil))))))
    (dss_cons (ds_set 6 sc__law_given.nd rfl (by first | exact Or.inl rfl | exact Or.inr rfl) (de_callG G__law_given hr (by omega) (by rfl) (da_cons (de_var 0) (da_cons (de_op od_sub (de_var 1) de_int) (da_cons (de_var 2) (da_cons de_bl da_nil))))))
    (dss_cons (ds_set 7 sc__law_given.nd rfl (by first | exact Or.inl rfl | exact Or.inr rfl) (de_ifExp (dt_cmpR (od_eq hu) (de_callG G__law_draw hr (by omega) (by rfl) (da_cons (de_var 0) (da_cons de_int da_nil))) de_int (by rfl)) de_str de_str))
    (dss_one (ds_ret (de_ifExp (dt_cmpR (od_eq hu) (de_callG G__law_draw hr (by omega) (by rfl) (da_cons (de_var 0) (da_cons de_int da_nil))) de_int (by rfl)) (de_tup (da_cons (de_var 7) (da_cons (de_var 5) (da_cons (de_var 6) da_nil)))) (de_tup (da_cons (de_var 7) (da_cons (de_var 6) (da_cons (de_var 5) da_nil))))))))))))))
theorem good__law_given {sp : P1} {sp__law_draw : P1} {sp__law_fact : P1} {sp__law_given : P1} (T : TopF K mg "_law_given" "_law_given" s__law_given ["_law_d", "_law_deep", "_law_room", "_law_tall"]) (B : Blt w K mg) {d : Nat} (G__law_draw : Good P w K mg base 1 "_law_draw" ["_law_d", "_law_many"] sp__law_draw) (G__law_fact : Good P w K mg base 5 "_law_fact" ["_law_d"] sp__law_fact) (G__law_given : Good P w K mg base (6 + d) "_law_given" ["_law_d", "_law_deep", "_law_room", "_law_tall"] sp__law_given) (len : ∀ ds h Q, sp ds h Q → ds.length = 4) (sat : ∀ ds h Q, sp ds h Q → rd__law_given sp__law_draw sp__law_fact sp__law_given (endN Q) (startD 8 ds) h) : Good P w K mg base (6 + d + 1) "_law_given" ["_law_d", "_law_deep", "_law_room", "_law_tall"] sp :=
  good_ok T sc__law_given len (body__law_given B G__law_draw G__law_fact G__law_given) sat
theorem body__law_same {sp__law_same : P1} {sp__law_is_int : P1} (B : Blt w K mg) {d : Nat} (G__law_same : Good P w K mg base (2 + d) "_law_same" ["_law_told", "_law_due"] sp__law_same) (G__law_is_int : Good P w K mg base 1 "_law_is_int" ["_law_thing"] sp__law_is_int) (f : Addr) (cdv : Value) (A : Around) (outer : List Env) (s : Shared) (H : Hp) (E : XK) (hr : RoomG (2 + d) (A.deeper (envOfC "_law_same" (defScope s__law_same) s.heap.objs.size f cdv))) :
    DSs (cxOf CX0 P w K mg base ["_law_told", "_law_due", "_law_k"] "_law_same" (defScope s__law_same) f cdv A outer s H E).nox (defBody s__law_same) (rd__law_same sp__law_same sp__law_is_int) := by
  have hu := hr.r.units
  have hu5 : (A.deeper (envOfC "_law_same" (defScope s__law_same) s.heap.objs.size f cdv)).units + 65 < cLine := by have := hr.r.un; omega
  exact (dss_cons (ds_if (dt_tru (de_callB xd_isi (by rfl) B.n_isinstance (by decide +kernel) (da_cons (de_var 1) (da_cons (de_ty (T := "tuple") (by rfl) B.n_tuple (by decide +kernel)) da_nil)))) (dss_cons (ds_if (dt_w (dw_or (dt_not (dt_tru (de_callB xd_isi (by rfl) B.n_isinstance (by decide +kernel) (da_cons (de_var 0) (da_cons (de_ty (T := "tuple") (by rfl) B.n_tuple (by decide +kernel)) da_nil))))) (dw_or1 (dt_cmpR (od_ne hu) (de_callB xd_len (by rfl) B.n_len (by decide +kernel) (da_cons (de_var 0) da_nil)) (de_callB xd_len (by rfl) B.n_len (by decide +kernel) (da_cons (de_var 1) da_nil)) (by rfl))))) (dss_one (ds_ret de_bl)) dss_nil)
    (dss_one (ds_ret (de_callB (xd_all rfl) (by rfl) B.n_all (by decide +kernel) (da_cons (de_lc (own := [("_law_k", 2)]) (by rfl) sc__law_same.nd (di_range1 (by rfl) B.n_range (da_cons (de_callB xd_len (by rfl) B.n_len (by decide +kernel) (da_cons (de_var 1) da_nil)) da_nil)) (blkOk_by (own := [("_law_k", 2)]) (N := ["_law_told", "_law_due", "_law_k"]) (sc := defScope s__law_same) (by decide +kernel)) (fun _ _ _ _ _ => (dg_name 2 (okAtW (by decide)) sc__law_same.nd rfl (by first | exact Or.inl rfl | exact Or.inr rfl))) (fun _ _ _ _ _ => dts_nil) (fun _ _ _ _ _ => (de_callG G__law_same hr (by omega) (by rfl) (da_cons (de_ix hu (de_var 0) (de_var 2) (fun _ _ => rfl)) (da_cons (de_ix hu (de_var 1) (de_var 2) (fun _ _ => rfl)) da_nil))))) da_nil))))) dss_nil)
    (dss_cons (ds_if (dt_cmpR od_is (de_var 1) de_non (by rfl)) (dss_one (ds_ret (de_cmpR od_is (de_var 0) de_non (by rfl)))) dss_nil)
    (dss_cons (ds_if (dt_tru (de_callB xd_isi (by rfl) B.n_isinstance (by decide +kernel) (da_cons (de_var 1) (da_cons (de_ty (T := "bool") (by rfl) B.n_bool (by decide +kernel)) da_nil)))) (dss_one (ds_ret (de_and (de_callB xd_isi (by rfl) B.n_isinstance (by decide +kernel) (da_cons (de_var 0) (da_cons (de_ty (T := "bool") (by rfl) B.n_bool (by decide +kernel)) da_nil))) (de_one (de_cmpR (od_eq hu) (de_var 0) (de_var 1) (by rfl)))))) dss_nil)
    (dss_cons (ds_if (dt_tru (de_callB xd_isi (by rfl) B.n_isinstance (by decide +kernel) (da_cons (de_var 1) (da_cons (de_ty (T := "int") (by rfl) B.n_int (by decide +kernel)) da_nil)))) (dss_one (ds_ret (de_and (de_callG G__law_is_int hr (by omega) (by rfl) (da_cons (de_var 0) da_nil)) (de_one (de_cmpR (od_eq hu) (de_var 0) (de_var 1) (by rfl)))))) dss_nil)
    (dss_one (ds_ret (de_and (de_callB xd_isi (by rfl) B.n_isinstance (by decide +kernel) (da_cons (de_var 0) (da_cons (de_ty (T := "str") (by rfl) B.n_str (by decide +kernel)) da_nil))) (de_one (de_cmpR (od_eq hu) (de_var 0) (de_var 1) (by rfl))))))))))
theorem good__law_same {sp : P1} {sp__law_same : P1} {sp__law_is_int : P1} (T : TopF K mg "_law_same" "_law_same" s__law_same ["_law_told", "_law_due"]) (B : Blt w K mg) {d : Nat} (G__law_same : Good P w K mg base (2 + d) "_law_same" ["_law_told", "_law_due"] sp__law_same) (G__law_is_int : Good P w K mg base 1 "_law_is_int" ["_law_thing"] sp__law_is_int) (len : ∀ ds h Q, sp ds h Q → ds.length = 2) (sat : ∀ ds h Q, sp ds h Q → rd__law_same sp__law_same sp__law_is_int (endN Q) (startD 3 ds) h) : Good P w K mg base (2 + d + 1) "_law_same" ["_law_told", "_law_due"] sp :=
  good_ok T sc__law_same len (body__law_same B G__law_same G__law_is_int) sat
theorem body__law_any_cond {sp__law_draw : P1} {sp__law_given : P1} (B : Blt w K mg) (G__law_draw : Good P w K mg base 1 "_law_draw" ["_law_d", "_law_many"] sp__law_draw) (G__law_given : Good P w K mg base 20 "_law_given" ["_law_d", "_law_deep", "_law_room", "_law_tall"] sp__law_given) (f : Addr) (cdv : Value) (A : Around) (outer : List Env) (s : Shared) (H : Hp) (E : XK) (hr : RoomG 20 (A.deeper (envOfC "_law_any_cond" (defScope s__law_any_cond) s.heap.objs.size f cdv))) :
    DSs (cxOf CX0 P w K mg base ["_law_d", "_law_size"] "_law_any_cond" (defScope s__law_any_cond) f cdv A outer s H E).nox (defBody s__law_any_cond) (rd__law_any_cond sp__law_draw sp__law_given) := by
  have hu := hr.r.units
  have hu5 : (A.deeper (envOfC "_law_any_cond" (defScope s__law_any_cond) s.heap.objs.size f cdv)).units + 65 < cLine := by have := hr.r.un; omega
  exact (dss_cons (ds_if (dt_w (dw_and (dt_cmpR od_gt (de_var 1) de_int (by rfl)) (dw_and1 (dt_cmpR (od_eq hu) (de_callG G__law_draw hr (by omega) (by rfl) (da_cons (de_var 0) (da_cons de_int da_nil))) de_int (by rfl))))) (dss_one (ds_ret (de_callG G__law_given hr (by omega) (by rfl) (da_cons (de_var 0) (da_cons de_int (da_cons (de_lst (da_cons de_int da_nil)) (da_cons de_bl da_nil))))))) dss_nil)
    (dss_one (ds_ret (de_callG G__law_given hr (by omega) (by rfl) (da_cons (de_var 0) (da_cons de_int (da_cons (de_lst (da_cons (de_op od_add de_int (de_callG G__law_draw hr (by omega) (by rfl) (da_cons (de_var 0) (da_cons (de_var 1) da_nil)))) da_nil)) (da_cons de_bl da_nil))))))))
theorem good__law_any_cond {sp : P1} {sp__law_draw : P1} {sp__law_given : P1} (T : TopF K mg "_law_any_cond" "_law_any_cond" s__law_any_cond ["_law_d", "_law_size"]) (B : Blt w K mg) (G__law_draw : Good P w K mg base 1 "_law_draw" ["_law_d", "_law_many"] sp__law_draw) (G__law_given : Good P w K mg base 20 "_law_given" ["_law_d", "_law_deep", "_law_room", "_law_tall"] sp__law_given) (len : ∀ ds h Q, sp ds h Q → ds.length = 2) (sat : ∀ ds h Q, sp ds h Q → rd__law_any_cond sp__law_draw sp__law_given (endN Q) (startD 2 ds) h) : Good P w K mg base 21 "_law_any_cond" ["_law_d", "_law_size"] sp :=
  good_ok T sc__law_any_cond len (body__law_any_cond B G__law_draw G__law_given) sat
theorem body__law_is_text {sp__law_same : P1} {sp__law_whole : P1} {sp__law_partner : P1} (B : Blt w K mg) (G__law_same : Good P w K mg base 20 "_law_same" ["_law_told", "_law_due"] sp__law_same) (G__law_whole : Good P w K mg base 8 "_law_whole" ["_law_words"] sp__law_whole) (G__law_partner : Good P w K mg base 1 "_law_partner" ["_law_words", "_law_start"] sp__law_partner) (f : Addr) (cdv : Value) (A : Around) (outer : List Env) (s : Shared) (H : Hp) (E : XK) (hr : RoomG 20 (A.deeper (envOfC "_law_is_text" (defScope s__law_is_text) s.heap.objs.size f cdv))) :
    DSs (cxOf CX0 P w K mg base ["_law_cond", "_law_words", "_law_k", "_law_other"] "_law_is_text" (defScope s__law_is_text) f cdv A outer s H E).nox (defBody s__law_is_text) (rd__law_is_text sp__law_same sp__law_whole sp__law_partner) := by
  have hu := hr.r.units
  have hu5 : (A.deeper (envOfC "_law_is_text" (defScope s__law_is_text) s.heap.objs.size f cdv)).units + 65 < cLine := by have := hr.r.un; omega
  exact (dss_cons (ds_if (dt_not (dt_tru (de_callG G__law_same hr (by omega) (by rfl) (da_cons (de_callG G__law_whole hr (by omega) (by rfl) (da_cons (de_var 1) da_nil)) (da_cons (de_var 0) da_nil))))) (dss_one (ds_ret de_bl)) dss_nil)
    (dss_cons (ds_for PassesOwn.never (by rfl) (di_range1 (by rfl) B.n_range (da_cons (de_callB xd_len (by rfl) B.n_len (by decide +kernel) (da_cons (de_var 1) da_nil)) da_nil)) (dg_name 2 okAt0 sc__law_is_text.nd rfl (by first | exact Or.inl rfl | exact Or.inr rfl)) (dss_one (ds_if (dt_cmpR (od_eq hu) (de_ix hu (de_var 1) (de_var 2) (fun _ _ => rfl)) de_str (by rfl)) (dss_cons (ds_set 3 sc__law_is_text.nd rfl (by first | exact Or.inl rfl | exact Or.inr rfl) (de_callG G__law_partner hr (by omega) (by rfl) (da_cons (de_var 1) (da_cons (de_var 2) da_nil))))
    (dss_one (ds_if (dt_tru (de_callG G__law_same hr (by omega) (by rfl) (da_cons (de_callG G__law_whole hr (by omega) (by rfl) (da_cons (de_op od_add (de_op od_add (de_slice (de_var 1) do_none (do_some (de_var 2))) (de_slice (de_var 1) (do_some (de_op od_add (de_var 2) de_int)) (do_some (de_var 3)))) (de_slice (de_var 1) (do_some (de_op od_add (de_var 3) de_int)) do_none)) da_nil)) (da_cons (de_var 0) da_nil)))) (dss_one (ds_ret de_bl)) dss_nil))) dss_nil)))
    (dss_one (ds_ret de_bl))))
theorem good__law_is_text {sp : P1} {sp__law_same : P1} {sp__law_whole : P1} {sp__law_partner : P1} (T : TopF K mg "_law_is_text" "_law_is_text" s__law_is_text ["_law_cond", "_law_words"]) (B : Blt w K mg) (G__law_same : Good P w K mg base 20 "_law_same" ["_law_told", "_law_due"] sp__law_same) (G__law_whole : Good P w K mg base 8 "_law_whole" ["_law_words"] sp__law_whole) (G__law_partner : Good P w K mg base 1 "_law_partner" ["_law_words", "_law_start"] sp__law_partner) (len : ∀ ds h Q, sp ds h Q → ds.length = 2) (sat : ∀ ds h Q, sp ds h Q → rd__law_is_text sp__law_same sp__law_whole sp__law_partner (endN Q) (startD 4 ds) h) : Good P w K mg base 21 "_law_is_text" ["_law_cond", "_law_words"] sp :=
  good_ok T sc__law_is_text len (body__law_is_text B G__law_same G__law_whole G__law_partner) sat
theorem body_law {sp__law_begin : P1} {sp__law_any_cond : P1} {sp_write_cond : P1} {sp__law_is_text : P1} {sp__law_word : P1} {sp_write : P1} (B : Blt w K mg) (G__law_begin : Good P w K mg base 1 "_law_begin" ["_law_script"] sp__law_begin) (G__law_any_cond : Good P w K mg base 21 "_law_any_cond" ["_law_d", "_law_size"] sp__law_any_cond) (G_write_cond : Good P w K mg base 18 "write_cond" ["cond"] sp_write_cond) (G__law_is_text : Good P w K mg base 21 "_law_is_text" ["_law_cond", "_law_words"] sp__law_is_text) (G__law_word : Good P w K mg base 3 "_law_word" ["_law_d"] sp__law_word) (G_write : Good P w K mg base 20 "write" ["tree"] sp_write) (f : Addr) (cdv : Value) (A : Around) (outer : List Env) (s : Shared) (H : Hp) (E : XK) (hr : RoomG 21 (A.deeper (envOfC "law" (defScope s_law) s.heap.objs.size f cdv))) :
    DSs (cxOf CX0 P w K mg base ["_law_script", "_law_d", "_law_first", "_law_second", "_law_cond", "_law_text", "_law_name"] "law" (defScope s_law) f cdv A outer s H E).nox (defBody s_law) (rd_law sp__law_begin sp__law_any_cond sp_write_cond sp__law_is_text sp__law_word sp_write) := by
  have hu := hr.r.units
  have hu5 : (A.deeper (envOfC "law" (defScope s_law) s.heap.objs.size f cdv)).units + 65 < cLine := by have := hr.r.un; omega
  exact (dss_cons (ds_set 1 sc_law.nd rfl (by first | exact Or.inl rfl | exact Or.inr rfl) (de_callG G__law_begin hr (by omega) (by rfl) (da_cons (de_var 0) da_nil)))
    (dss_cons (ds_set 2 sc_law.nd rfl (by first | exact Or.inl rfl | exact Or.inr rfl) (de_callG G__law_any_cond hr (by omega) (by rfl) (da_cons (de_var 1) (da_cons de_int da_nil))))
    (dss_cons (ds_set 3 sc_law.nd rfl (by first | exact Or.inl rfl | exact Or.inr rfl) (de_callG G__law_any_cond hr (by omega) (by rfl) (da_cons (de_var 1) (da_cons de_int da_nil))))
    (dss_cons (ds_for PassesOwn.never (by rfl) (di_seq (de_lst (da_cons (de_var 2) (da_cons (de_var 3) (da_cons (de_var 2) da_nil))))) (dg_name 4 okAt0 sc_law.nd rfl (by first | exact Or.inl rfl | exact Or.inr rfl)) (dss_cons (ds_set 5 sc_law.nd rfl (by first | exact Or.inl rfl | exact Or.inr rfl) (de_callG G_write_cond hr (by omega) (by rfl) (da_cons (de_var 4) da_nil)))
    (dss_cons (ds_if (dt_w (dw_or (dt_not (dt_tru (de_callB xd_isi (by rfl) B.n_isinstance (by decide +kernel) (da_cons (de_var 5) (da_cons (de_ty (T := "str") (by rfl) B.n_str (by decide +kernel)) da_nil))))) (dw_or1 (dt_not (dt_tru (de_callG G__law_is_text hr (by omega) (by rfl) (da_cons (de_var 4) (da_cons (de_split (de_var 5) de_str) da_nil)))))))) (dss_one (ds_ret de_bl)) dss_nil)
    (dss_cons (ds_set 6 sc_law.nd rfl (by first | exact Or.inl rfl | exact Or.inr rfl) (de_callG G__law_word hr (by omega) (by rfl) (da_cons (de_var 1) da_nil)))
    (dss_one (ds_if (dt_cmpR (od_ne hu) (de_callG G_write hr (by omega) (by rfl) (da_cons (de_tup (da_cons (de_tup (da_cons de_str (da_cons (de_var 6) (da_cons (de_var 4) da_nil)))) da_nil)) da_nil)) (de_op od_add (de_op od_add (de_op od_add (de_op od_add de_str (de_var 6)) de_str) (de_var 5)) de_str) (by rfl)) (dss_one (ds_ret de_bl)) dss_nil))))))
    (dss_one (ds_ret de_bl))))))
theorem fn_law {sp : P1} {sp__law_begin : P1} {sp__law_any_cond : P1} {sp_write_cond : P1} {sp__law_is_text : P1} {sp__law_word : P1} {sp_write : P1} {f : Addr} {fd : FuncData} (F : Fun K "law" "law" s_law f fd) (B : Blt w K mg) (G__law_begin : Good P w K mg base 1 "_law_begin" ["_law_script"] sp__law_begin) (G__law_any_cond : Good P w K mg base 21 "_law_any_cond" ["_law_d", "_law_size"] sp__law_any_cond) (G_write_cond : Good P w K mg base 18 "write_cond" ["cond"] sp_write_cond) (G__law_is_text : Good P w K mg base 21 "_law_is_text" ["_law_cond", "_law_words"] sp__law_is_text) (G__law_word : Good P w K mg base 3 "_law_word" ["_law_d"] sp__law_word) (G_write : Good P w K mg base 20 "write" ["tree"] sp_write) (len : ∀ ds h Q, sp ds h Q → ds.length = 1) (sat : ∀ ds h Q, sp ds h Q → rd_law sp__law_begin sp__law_any_cond sp_write_cond sp__law_is_text sp__law_word sp_write (endN Q) (startD 7 ds) h) : FnG P w K mg base 22 f fd ["_law_script"] (lowP ⟨K, w, mg⟩ sp) :=
  df_ok F sc_law len fun cdv A outer s H E hr => ⟨_, body_law B G__law_begin G__law_any_cond G_write_cond G__law_is_text G__law_word G_write f cdv A outer s H E hr, sat⟩
end
end DL
namespace DL
open PySem PySem.Spec PyProof.Rows L2
local macro_rules | `(tactic| walk_at "ev") => `(tactic| try simp only [e_seq, e_next, e_brk, e_cnt, e_drop, e_ret, e_retN, e_ifS, e_asg, e_gN, e_gSb, e_gTp, e_gCn, e_gNl, e_var, e_varK, e_nth0, e_nthS, e_put0, e_putS, e_c, e_op, e_un, e_call, e_nil, e_cons, e_tup, e_lst, e_test, e_asB, e_tru, e_andT, e_orT, e_notT, e_andV, e_orV, e_notV, e_if, e_aug, e_augS, e_sl, e_part, e_partK, e_noPart, e_bm0, e_bm, e_join, e_yes, e_wipe0, e_wipeS, e_lc, e_for, v_add, v_addS, v_addT, v_iadd, v_sub, v_mul, v_fdiv, v_mod, v_pow, v_shl, v_shr, v_neg, v_lt, v_le, v_gt, v_ge, v_eqI, v_neI, v_eqS, v_neS, v_inS, v_ninS, v_inT, v_ninT, v_inR, v_ninR, v_inSeq, v_seqO, v_seqR, v_seqT, v_seqL, v_ixR, v_ixT, v_ixL, v_ixS, v_atK, v_atSK, v_get, v_getL, v_getK, v_set, v_setL, v_setK, v_on1, v_on2, v_lenR, v_lenT, v_lenL, v_lenS, v_seqK, v_tuple, v_list, v_abs, v_intI, v_intB, v_okL, v_isLst, v_app, v_lstK, v_slS, v_slT, v_join, v_is, v_isnot, v_max, v_min, v_iSeq, v_srcT, v_srcL, v_srcS, v_srcR, v_srcO, v_iRg1, v_rg1, v_truN, v_truB, v_truI, v_truS, v_truR, v_truT, v_truRol, v_truL, v_inRol, v_ninRol, v_inO, v_inOd, v_inDic, v_ixO, v_ixOd, v_ixSeq, v_ixDic, v_dgetK, v_ixStr, v_getO, v_getOd, v_setO, v_setOd, v_setDic, v_lenO, v_lenOd, e_dic0, e_disp, e_pairs0, e_pairsS, e_chain, v_bits, v_iRg3, v_rg3, v_iRg2, v_rg2, v_iEn, v_enT, v_enR, v_enO, v_iZp, v_zpT, v_zpR, v_zpO, v_repr, v_strI, v_strS, v_addR, v_and, v_slR, v_slL, v_ltS, v_srtT, v_srtR, v_srtO, v_srtD, v_revR, v_revT, v_isB, v_iZs, v_zsT, e_split, v_split, v_words, v_index, v_eqIS, v_neIS, v_eqB, v_neB])
section
theorem ixN5_1 : ixN 5 1 = some 1 := by decide
theorem ixN5_2 : ixN 5 2 = some 2 := by decide
theorem ixN5_3 : ixN 5 3 = some 3 := by decide
theorem CPow_a : CPow 10 18 := by unfold CPow; decide
theorem CPow_b : CPow 1 6000 := by unfold CPow; decide
theorem pow6000 : (0:Int) < 1 * 2 ^ Int.toNat 6000 := by rw [Int.one_mul]; exact Int.pow_pos (by decide)
theorem len__law_draw : ∀ ds h Q, sp__law_draw ds h Q → ds.length = 2 := fun ds h Q ⟨a, c, cs, many, e, _⟩ => by rw [e]; rfl
section
variable {Q : KD} {h0 : MH} {a c : Addr} {cs : List Int} {many : Int}
/-- what the draw's end wants -/
def DrFin (Q : KD) (h0 : MH) (a c : Addr) (many : Int) : Prop := ∀ (x p acc r : Int), 0 ≤ p → Lh Q (.int (x % many)) (up h0 a (.lst [.ref c, .int p, .int acc, .int r, .int 3]))
theorem draw_5 (hm : 0 < many) (q : DrFin Q h0 a c many) {x y : Option D} {size p acc r : Int} (hp : 0 ≤ p) : rd__law_draw_5 (endN Q) [some (.ref a), some (.int many), x, some (.int size), y] (up h0 a (.lst [.ref c, .int p, .int acc, .int r, .int 3])) := by
  unfold rd__law_draw_5 rd__law_draw_6
  walk_at "ev"
  simp only [up_same, up_up, v_ixO, v_ixO, v_ixSeq, atI_1, atI_3, v_atK, v_mul, v_add, v_mod, v_intI, v_setO, v_setL, List.length_cons, List.length_nil, Nat.reduceAdd, ixN5_3, v_setK, List.set_cons_succ, List.set_cons_zero, v_fdiv]
  refine ⟨mulOk_r (by decide), by decide, mulOk_r (by decide), mulOk_r (by decide), by decide, divOk_16, hm, q _ _ _ _ hp⟩
theorem draw_4 (hm : 0 < many) (hm2 : many < 2 ^ 64) (q : DrFin Q h0 a c many) {x y : Option D} {size p acc r : Int} (hp : 0 ≤ p) : rd__law_draw_4 (endN Q) [some (.ref a), some (.int many), x, some (.int size), y] (up h0 a (.lst [.ref c, .int p, .int acc, .int r, .int 3])) := by
  unfold rd__law_draw_4
  walk_at "ev"
  refine ⟨CPow_a, mulOk_l (by decide), ?_⟩
  split
  · refine ⟨divOk_2, CPow_b, pow6000, divOk_of hm hm2, ?_⟩
    simp only [up_same, up_up, v_ixO, v_setO, v_setL, List.length_cons, List.length_nil, Nat.reduceAdd, ixN5_2, v_setK, List.set_cons_succ, List.set_cons_zero]
    exact ⟨hm, q _ _ _ _ hp⟩
  · exact draw_5 hm q hp
theorem draw_3 (hm : 0 < many) (hm2 : many < 2 ^ 64) (q : DrFin Q h0 a c many) {x y : Option D} {size p acc r : Int} (hp : 0 ≤ p) (ha : h0 a = some (.lst [.ref c, .int p, .int acc, .int r, .int 3])) : rd__law_draw_3 (endN Q) [some (.ref a), some (.int many), x, some (.int size), y] h0 := by
  unfold rd__law_draw_3
  walk_at "ev"
  simp only [ha, v_getO, v_getL, atI_1, v_getK, v_iadd, v_setO, v_setL, List.length_cons, List.length_nil, Nat.reduceAdd, ixN5_1, v_setK, List.set_cons_succ, List.set_cons_zero]
  exact ⟨by decide, draw_4 hm hm2 q (by omega)⟩
end
theorem sat__law_draw : ∀ ds h Q, sp__law_draw ds h Q → rd__law_draw (endN Q) (startD 5 ds) h := by
  rintro ds h Q ⟨a, c, cs, many, rfl, hm, hm2, d, q⟩
  obtain ⟨⟨o, ha, p, acc, r, hp, rfl⟩, hc⟩ := id d
  have dv := divOk_of hm hm2
  have fin : DrFin Q h a c many := fun x p' acc' r' hp' =>
    lh_of (q _ _ (Int.emod_nonneg _ (by omega)) (Int.emod_lt_of_pos _ hm) ⟨p', acc', r', hp', rfl⟩)
  show rd__law_draw (endN Q) [some (.ref a), some (.int many), none, none, none] h
  unfold rd__law_draw
  walk_at "ev"
  simp only [ha, atI_2, v_ixO, v_ixO, v_ixSeq, v_atK, v_gt, e_asB, decide_eq_true_eq]
  split
  · walk_at "ev"
    simp only [ha, v_setO, v_setL, List.length_cons, List.length_nil, Nat.reduceAdd, ixN5_2, v_setK, List.set_cons_succ, List.set_cons_zero, dv, hm, true_and]
    exact fin _ _ _ _ hp
  · unfold rd__law_draw_1 rd__law_draw_2
    walk_at "ev"
    simp only [ha, hc, atI_z, atI_1, v_ixO, v_ixO, v_ixSeq, v_atK, v_lenR, v_lenO, v_lt, e_asB, decide_eq_true_eq, List.length_map]
    split
    · rename_i hlt
      obtain ⟨j, rfl⟩ := Int.eq_ofNat_of_zero_le hp
      have hj : j < cs.length := by omega
      simp only [ha, hc, atI_z, atI_1, v_ixO, v_ixO, v_ixSeq, v_atK, v_ixR, atI_of rfl (show (cs.map D.int)[j]? = some (.int cs[j]) by rw [List.getElem?_map, List.getElem?_eq_getElem hj]; rfl), v_abs, v_mul, v_lt, v_intB, v_add]
      exact ⟨mulOk_l (by decide), draw_3 hm hm2 fin hp ha⟩
    · exact draw_3 hm hm2 fin hp ha
end
section
theorem len__law_begin : ∀ ds h Q, sp__law_begin ds h Q → ds.length = 1 := fun ds h Q ⟨cs, e, _⟩ => by rw [e]; rfl
theorem sat__law_begin : ∀ ds h Q, sp__law_begin ds h Q → rd__law_begin (endN Q) (startD 2 ds) h := by
  rintro ds h Q ⟨cs, rfl, hl, q⟩
  show rd__law_begin (endN Q) [some (.rol (cs.map D.int)), none] h
  unfold rd__law_begin
  walk_at "ev"
  refine ⟨by rw [List.length_map]; exact Nat.le_trans hl (by decide), fun i acc hh => hh = h ∧ acc = (cs.take i).map D.int, ⟨h, le.refl, rfl, rfl⟩, fun _ _ _ _ => trivial, ?_, ?_⟩
  · rintro i x acc hh hx ⟨rfl, rfl⟩
    rw [List.getElem?_map] at hx
    obtain ⟨n, hn, rfl⟩ := Option.map_eq_some_iff.mp hx
    walk_at "ev"
    rw [if_pos trivial]
    refine ⟨hh, le.refl, rfl, ?_⟩
    obtain ⟨hlt, e⟩ := List.getElem?_eq_some_iff.mp hn
    rw [List.take_succ_eq_append_getElem hlt, List.map_append, e]; rfl
  · rintro acc hh ⟨rfl, rfl⟩ p np
    walk_at "ev"
    refine ⟨by show 5 ≤ sizeLine; decide, fun a na => ?_⟩
    rw [List.length_map, List.take_length]
    have npa : a ≠ p := fun z => by rw [z, up_same] at na; cases na
    exact lh_of (q a p _ (by rw [up_ne npa] at na; exact na) np npa ⟨0, 0, 7, by decide, rfl⟩)
end
section
theorem len__law_pick : ∀ ds h Q, sp__law_pick ds h Q → ds.length = 2 := fun ds h Q ⟨a, c, cs, row, xs, e, _⟩ => by rw [e]; rfl
theorem sat__law_pick : ∀ ds h Q, sp__law_pick ds h Q → rd__law_pick sp__law_draw (endN Q) (startD 2 ds) h := by
  rintro ds h Q ⟨a, c, cs, row, xs, rfl, d, hr, hne, hx, hl, q⟩
  show rd__law_pick sp__law_draw (endN Q) [some (.ref a), some row] h
  unfold rd__law_pick
  walk_at "ev"
  refine len_row hr ?_
  have hp : 0 < xs.length := List.length_pos_iff.mpr hx
  refine ⟨a, c, cs, _, rfl, by omega, by omega, d, fun r o h0 h1 k => ?_⟩
  obtain ⟨j, rfl⟩ := Int.eq_ofNat_of_zero_le h0
  have hj : j < xs.length := by omega
  have hr' : rowOf (up h a o) row = some xs := by
    cases row <;> try exact hr
    case ref l =>
      have : l ≠ a := fun z => hne (by rw [z])
      show seqO (up h a o l) = some xs
      rw [up_ne this]; exact hr
  exact ix_row hr' (List.getElem?_eq_getElem hj) (lh_of (q _ o (List.getElem_mem hj) k))
end
end DL
namespace DL
open PySem PySem.Spec PyProof.Rows L2
/-! conditions as data, their texts, the law's reader: plain -/
def tk (s : String) : Str := Str.ofString s
def resL : List Str := ["asker", "group", "thing", "badge", "tag", "number", "flag", "asked", "action", "duty", "tie", "never", "walk", "when", "role", "gate", "let", "bar", "on", "from", "to", "by", "is", "may", "rank", "due", "and", "or", "not", "always", "now", "ask", "any", "table", "final", "node", "rule"].map Str.ofString
def abcS : Str := Str.ofString "abcdefghijklmnopqrstuvwxyz"
def abnS : Str := Str.ofString "abcdefghijklmnopqrstuvwxyz0123456789"
def gdN (s : Str) : Bool := decide (1 ≤ s.length) && (decide (s.length ≤ 8) && (!decide (cutS s none (some 2) = Str.ofString "zz") && (!(resL.any fun z => decide (z = s)) && ((match s.cps.toList[0]? with
  | some c => inS ⟨#[c]⟩ abcS
  | none => false) && s.cps.toList.all fun c => inS ⟨#[c]⟩ abnS))))
def frT : Nat → Str
  | 0 => tk "asker"
  | 1 => tk "thing"
  | _ => tk "ask"
inductive Sd where
  | wd (b : Bool)
  | fld (k : Nat) (n : Str)
def wdT : Bool → Str
  | true => tk "now"
  | false => tk "0"
def sdS : Sd → Str
  | .wd b => wdT b
  | .fld k n => frT k ++ tk "." ++ n
def sdT : Sd → List Str
  | .wd b => [wdT b]
  | .fld k n => [frT k, tk ".", n]
inductive Cd where
  | always
  | named (n : Str)
  | flag (n : Str)
  | tag (k : Nat) (n : Str)
  | walk (n m : Str)
  | atm (l r : Sd) (g : Int)
  | nt (c : Cd)
  | bin (o : Bool) (a b : Cd)
def numS (n : Nat) : Str := Str.ofString (toString (n : Int))
def gapT (g : Int) : List Str := if g = 0 then [] else [if 0 < g then tk "+" else tk "-", numS g.natAbs]
def enc (l n : Nat) (T : List Str) : List Str := if n ≤ l then T else tk "(" :: (T ++ [tk ")"])
def cdT : Cd → Nat → List Str
  | .always, _ => [tk "always"]
  | .named n, _ => [tk "@", n]
  | .flag n, _ => [tk "ask", tk "is", n]
  | .tag k n, _ => [frT k, tk "is", n]
  | .walk n m, _ => [tk "by", n, tk "to", m]
  | .atm l r g, _ => sdT l ++ tk "<=" :: (sdT r ++ gapT g)
  | .nt c, _ => tk "not" :: cdT c 2
  | .bin true a b, n => enc 1 n (cdT a 1 ++ tk "and" :: cdT b 2)
  | .bin false a b, n => enc 0 n (cdT a 0 ++ tk "or" :: cdT b 1)
def pcW : Cd → Nat → Nat
  | .nt c, _ => pcW c 2
  | .bin true a b, n => pcW a 1 + pcW b 2 + (if n ≤ 1 then 0 else 1)
  | .bin false a b, n => pcW a 0 + pcW b 1 + (if n ≤ 0 then 0 else 1)
  | _, _ => 0
def SdG : Sd → Prop
  | .wd _ => True
  | .fld k n => k < 3 ∧ gdN n = true
def CdG : Cd → Prop
  | .always => True
  | .named n => gdN n = true
  | .flag n => gdN n = true
  | .tag k n => k < 2 ∧ gdN n = true
  | .walk n m => gdN n = true ∧ (m = tk "thing" ∨ gdN m = true)
  | .atm l r g => SdG l ∧ SdG r ∧ g.natAbs ≤ 9999
  | .nt c => CdG c
  | .bin _ a b => CdG a ∧ CdG b
/-- the reader -/
def seeT : List Str → Str
  | [] => tk ""
  | z :: _ => z
def takeN : List Str → Option (Str × List Str)
  | [] => none
  | z :: r => if gdN z = true then some (z, r) else none
def digB (c : Nat) : Bool := decide (48 ≤ c) && decide (c ≤ 57)
def numOk (z : Str) : Option Nat := if (1 ≤ z.length ∧ z.length ≤ 4) ∧ z.cps.toList.all digB = true ∧ (z = tk "0" ∨ z.cps.toList.head? ≠ some 48) then some (z.cps.toList.foldl (fun acc c => acc * 10 + (c - 48)) 0) else none
def frN (z : Str) : Option Nat := if z = tk "asker" then some 0 else if z = tk "thing" then some 1 else if z = tk "ask" then some 2 else none
def takeSd (r : List Str) : Option (Sd × List Str) :=
  if seeT r = tk "now" then some (.wd true, r.tail)
  else if seeT r = tk "0" then some (.wd false, r.tail)
  else match frN (seeT r) with
    | none => none
    | some k => if seeT r.tail = tk "." then (takeN r.tail.tail).map fun p => (.fld k p.1, p.2) else none
def takeGp (l rr : Sd) (r : List Str) : Option (Cd × List Str × Nat) :=
  if seeT r = tk "+" ∨ seeT r = tk "-" then
    match numOk (seeT r.tail) with
    | none => none
    | some g => some (.atm l rr (if seeT r = tk "+" then (g : Int) else -(g : Int)), r.tail.tail, if g = 0 then 1 else 0)
  else some (.atm l rr 0, r, 0)
def takeAt (r : List Str) : Option (Cd × List Str × Nat) := match takeSd r with
  | none => none
  | some (l, r1) => if seeT r1 = tk "<=" then (match takeSd r1.tail with
    | none => none
    | some (rr, r2) => takeGp l rr r2) else none
def takeBy (n : Str) (r : List Str) : Option (Cd × List Str × Nat) :=
  if seeT r = tk "to" then (if seeT r.tail = tk "thing" then some (.walk n (tk "thing"), r.tail.tail, 0) else (takeN r.tail).map fun p => (.walk n p.1, p.2, 0)) else none
def isF (k : Nat) (n : Str) : Cd := if k = 2 then .flag n else .tag k n
def takeF (r : List Str) : Option (Cd × List Str × Nat) :=
  if (frN (seeT r)).isSome = true ∧ seeT r.tail = tk "is" then (takeN r.tail.tail).map fun p => (isF ((frN (seeT r)).getD 0) p.1, p.2, 0)
  else if seeT r = tk "always" then some (.always, r.tail, 0)
  else if seeT r = tk "@" then (takeN r.tail).map fun p => (.named p.1, p.2, 0)
  else if seeT r = tk "by" then (match takeN r.tail with
    | none => none
    | some (n, r1) => takeBy n r1)
  else takeAt r
inductive Wt where
  | par
  | nt
  | op (o : Bool)
deriving DecidableEq
def foldT (P : Bool) : List Cd → List Wt → List Cd × List Wt
  | s :: f :: vs, .op o :: ws => if (o || P) = true then foldT P (.bin o f s :: vs) ws else (s :: f :: vs, .op o :: ws)
  | vs, ws => (vs, ws)
termination_by _ ws => ws.length
def unN : List Cd → List Wt → List Cd × List Wt
  | v :: vs, .nt :: ws => unN (.nt v :: vs) ws
  | vs, ws => (vs, ws)
termination_by _ ws => ws.length
structure St where
  r : List Str
  rd : Bool
  vs : List Cd
  ws : List Wt
  z : Nat
inductive Rs where
  | bad
  | stop
  | go (s : St)
def turnT (s : St) : Rs :=
  if s.rd = false then
    if seeT s.r = tk "(" then .go ⟨s.r.tail, false, s.vs, .par :: s.ws, s.z⟩
    else if seeT s.r = tk "not" then .go ⟨s.r.tail, false, s.vs, .nt :: s.ws, s.z⟩
    else match takeF s.r with
      | none => .bad
      | some (w, r', dz) => .go ⟨r', true, (unN (w :: s.vs) s.ws).1, (unN (w :: s.vs) s.ws).2, s.z + dz⟩
  else if seeT s.r = tk "and" then .go ⟨s.r.tail, false, (foldT false s.vs s.ws).1, .op true :: (foldT false s.vs s.ws).2, s.z⟩
  else if seeT s.r = tk "or" then .go ⟨s.r.tail, false, (foldT true s.vs s.ws).1, .op false :: (foldT true s.vs s.ws).2, s.z⟩
  else if seeT s.r = tk ")" ∧ .par ∈ s.ws then .go ⟨s.r.tail, true, (unN (foldT true s.vs s.ws).1 (foldT true s.vs s.ws).2.tail).1, (unN (foldT true s.vs s.ws).1 (foldT true s.vs s.ws).2.tail).2, s.z⟩
  else .stop
def runT : Nat → St → Option St
  | 0, _ => none
  | n + 1, s => match turnT s with
    | .bad => none
    | .stop => some s
    | .go s' => runT n s'
def endT (s : St) : Option (Cd × List Str × Nat) := if .par ∈ s.ws then none else match (foldT true s.vs s.ws).1 with
  | [] => none
  | w :: _ => some (w, s.r, s.z)
def altT (T : List Str) : Option (Cd × List Str × Nat) := match runT (T.length + 1) ⟨T, false, [], [], 0⟩ with
  | none => none
  | some s => endT s
def wholeT (T : List Str) : Option Cd := match altT T with
  | some (w, [], 0) => some w
  | _ => none
/-! what is taken is shorter and has no more parentheses -/
def cnt (T : List Str) : Nat := T.countP fun z => decide (z = tk "(")
theorem cnt_tail : ∀ r : List Str, cnt r.tail ≤ cnt r
  | [] => Nat.le_refl _
  | z :: r => by unfold cnt; rw [List.countP_cons]; exact Nat.le_add_right _ _
def Less (r' r : List Str) : Prop := r'.length < r.length ∧ cnt r' ≤ cnt r
theorem Less.trans {a b c : List Str} (h : Less a b) (k : Less b c) : Less a c := ⟨Nat.lt_trans h.1 k.1, Nat.le_trans h.2 k.2⟩
theorem Less.cons (z : Str) (r : List Str) : Less r (z :: r) := ⟨Nat.lt_succ_self _, cnt_tail (z :: r)⟩
theorem Less.of_tail {a r : List Str} (h : Less a r.tail) : Less a r := ⟨Nat.lt_of_lt_of_le h.1 (by cases r <;> simp), Nat.le_trans h.2 (cnt_tail r)⟩
theorem see_ne {r : List Str} {z : Str} (h : seeT r = z) (hz : z ≠ tk "") : ∃ r', r = z :: r' := by
  cases r with
  | nil => exact (hz h.symm).elim
  | cons y r' => exact ⟨r', by rw [← h]; rfl⟩
theorem less_see {r : List Str} {z : Str} (h : seeT r = z) (hz : z ≠ tk "") : Less r.tail r := by
  obtain ⟨r', rfl⟩ := see_ne h hz
  exact .cons _ _
theorem takeN_less : ∀ {r : List Str} {p : Str × List Str}, takeN r = some p → Less p.2 r
  | [], _, h => by cases h
  | z :: r, p, h => by
    by_cases g : gdN z = true
    · rw [takeN, if_pos g] at h
      cases h; exact .cons _ _
    · rw [takeN, if_neg g] at h
      cases h
theorem takeSd_less {r : List Str} {p : Sd × List Str} (h : takeSd r = some p) : Less p.2 r := by
  unfold takeSd at h
  split at h
  · rename_i c
    cases h
    exact less_see c (by decide +kernel)
  · split at h
    · rename_i c
      cases h
      exact less_see c (by decide +kernel)
    · split at h
      · cases h
      · split at h
        · obtain ⟨p', e', rfl⟩ := Option.map_eq_some_iff.mp h
          exact (takeN_less e').of_tail.of_tail
        · cases h
theorem numOk_e : numOk (tk "") = none := by decide +kernel
theorem takeGp_le {l rr : Sd} {r : List Str} {p : Cd × List Str × Nat} (h : takeGp l rr r = some p) : (p.2.1 = r ∨ Less p.2.1 r) ∧ pcW p.1 2 = 0 := by
  unfold takeGp at h
  split at h
  · split at h
    · cases h
    · rename_i g e
      cases h
      refine ⟨.inr ?_, rfl⟩
      have ne : seeT r.tail ≠ tk "" := fun z => by rw [z, numOk_e] at e; cases e
      exact (less_see rfl ne).of_tail
  · cases h
    exact ⟨.inl rfl, rfl⟩
theorem takeAt_less {r : List Str} {p : Cd × List Str × Nat} (h : takeAt r = some p) : Less p.2.1 r ∧ pcW p.1 2 = 0 := by
  unfold takeAt at h
  split at h
  · cases h
  · rename_i l r1 e1
    have l1 := takeSd_less e1
    split at h
    · split at h
      · cases h
      · rename_i rr r2 e2
        have l2 := takeSd_less e2
        obtain ⟨l3, p3⟩ := takeGp_le h
        refine ⟨?_, p3⟩
        rcases l3 with q | q
        · rw [q]; exact l2.of_tail.trans l1
        · exact (q.trans l2).of_tail.trans l1
    · cases h
theorem takeBy_less {n : Str} {r : List Str} {p : Cd × List Str × Nat} (h : takeBy n r = some p) : Less p.2.1 r ∧ pcW p.1 2 = 0 := by
  unfold takeBy at h
  split at h
  · split at h
    · rename_i c
      cases h
      exact ⟨(less_see c (by decide +kernel)).of_tail, rfl⟩
    · obtain ⟨p', e', rfl⟩ := Option.map_eq_some_iff.mp h
      exact ⟨(takeN_less e').of_tail, rfl⟩
  · cases h
theorem takeF_less {r : List Str} {p : Cd × List Str × Nat} (h : takeF r = some p) : Less p.2.1 r ∧ pcW p.1 2 = 0 := by
  unfold takeF at h
  split at h
  · obtain ⟨p', e', rfl⟩ := Option.map_eq_some_iff.mp h
    refine ⟨(takeN_less e').of_tail.of_tail, ?_⟩
    show pcW (isF _ _) 2 = 0
    unfold isF
    split <;> rfl
  split at h
  · rename_i c
    cases h
    exact ⟨less_see c (by decide +kernel), rfl⟩
  split at h
  · obtain ⟨p', e', rfl⟩ := Option.map_eq_some_iff.mp h
    exact ⟨(takeN_less e').of_tail, rfl⟩
  split at h
  · split at h
    · cases h
    · rename_i n r1 e1
      have l1 := takeN_less e1
      obtain ⟨l2, p2⟩ := takeBy_less h
      exact ⟨(l2.trans l1).of_tail, p2⟩
  · exact takeAt_less h
/-! the count -/
theorem pcW_mono (w : Cd) : pcW w 0 ≤ pcW w 1 ∧ pcW w 1 ≤ pcW w 2 ∧ pcW w 2 ≤ pcW w 0 + 1 := by
  cases w with
  | bin o a b => cases o <;> simp [pcW]
  | _ => simp [pcW]
/-- stacks of one who waits for a value; m parentheses are wanted by now; k: 0 nothing or '(' on top, 1 'or', 2 'and', 3 'not' -/
inductive Nr : Nat → List Cd → List Wt → Nat → Prop
  | nil : Nr 0 [] [] 0
  | par {k vs ws m} : Nr k vs ws m → Nr 0 vs (.par :: ws) (m + 1)
  | or {vs ws m} (v : Cd) : Nr 0 vs ws m → Nr 1 (v :: vs) (.op false :: ws) (m + pcW v 0)
  | then_ {k vs ws m} (v : Cd) : Nr k vs ws m → k ≤ 1 → Nr 2 (v :: vs) (.op true :: ws) (m + pcW v 1)
  | nt {k vs ws m} : Nr k vs ws m → Nr 3 vs (.nt :: ws) m
/-- ready: a value on top of such stacks -/
def Rdy (vs : List Cd) (ws : List Wt) (c : Nat) : Prop := ∃ v us k m, vs = v :: us ∧ Nr k us ws m ∧ k ≤ 2 ∧ m + pcW v 2 ≤ c
theorem foldT_nil (P : Bool) (vs : List Cd) : foldT P vs [] = (vs, []) := by
  unfold foldT
  cases vs with
  | nil => rfl
  | cons v vs => cases vs <;> rfl
theorem foldT_par (P : Bool) (vs : List Cd) (ws : List Wt) : foldT P vs (.par :: ws) = (vs, .par :: ws) := by
  unfold foldT
  cases vs with
  | nil => rfl
  | cons v vs => cases vs <;> rfl
theorem foldT_nt (P : Bool) (vs : List Cd) (ws : List Wt) : foldT P vs (.nt :: ws) = (vs, .nt :: ws) := by
  unfold foldT
  cases vs with
  | nil => rfl
  | cons v vs => cases vs <;> rfl
theorem foldT_yes {P o : Bool} (h : (o || P) = true) (s f : Cd) (vs : List Cd) (ws : List Wt) : foldT P (s :: f :: vs) (.op o :: ws) = foldT P (.bin o f s :: vs) ws := by
  rw [foldT]
  rw [if_pos h]
theorem foldT_no {P o : Bool} (h : (o || P) = false) (s f : Cd) (vs : List Cd) (ws : List Wt) : foldT P (s :: f :: vs) (.op o :: ws) = (s :: f :: vs, .op o :: ws) := by
  rw [foldT]
  rw [if_neg (by rw [h]; decide)]
theorem foldT_one (P : Bool) (v : Cd) (ws : List Wt) : foldT P [v] ws = ([v], ws) := by
  unfold foldT
  cases ws with
  | nil => rfl
  | cons o ws => cases o <;> rfl
theorem foldT_z (P : Bool) (ws : List Wt) : foldT P [] ws = ([], ws) := by
  unfold foldT
  cases ws with
  | nil => rfl
  | cons o ws => cases o <;> rfl
theorem unN_nt (v : Cd) (vs : List Cd) (ws : List Wt) : unN (v :: vs) (.nt :: ws) = unN (.nt v :: vs) ws := by rw [unN]
theorem unN_z (ws : List Wt) : unN [] ws = ([], ws) := by
  unfold unN
  cases ws with
  | nil => rfl
  | cons o ws => cases o <;> rfl
def topN : List Wt → Bool
  | .nt :: _ => true
  | _ => false
theorem unN_no {ws : List Wt} (h : topN ws = false) (vs : List Cd) : unN vs ws = (vs, ws) := by
  cases vs with
  | nil => exact unN_z ws
  | cons v vs =>
    unfold unN
    cases ws with
    | nil => rfl
    | cons o ws =>
      cases o with
      | nt => cases h
      | par => rfl
      | op o => rfl
/-- nothing is folded at 0 -/
theorem fold_0 {P : Bool} {v : Cd} {vs : List Cd} {ws : List Wt} {m : Nat} (h : Nr 0 vs ws m) : foldT P (v :: vs) ws = (v :: vs, ws) := by
  cases h with
  | nil => exact foldT_nil _ _
  | par h => exact foldT_par _ _ _
theorem fold_01 {v : Cd} {vs : List Cd} {ws : List Wt} {m k : Nat} (h : Nr k vs ws m) (hk : k ≤ 1) : foldT false (v :: vs) ws = (v :: vs, ws) := by
  cases h with
  | nil => exact foldT_nil _ _
  | par h => exact foldT_par _ _ _
  | or u h => exact foldT_no rfl _ _ _ _
  | then_ => omega
  | nt => omega
theorem fold_then {vs : List Cd} {ws : List Wt} {c : Nat} (R : Rdy vs ws c) : ∃ x us k m, foldT false vs ws = (x :: us, (foldT false vs ws).2) ∧ Nr k us (foldT false vs ws).2 m ∧ k ≤ 1 ∧ m + pcW x 1 ≤ c := by
  obtain ⟨v, us, k, m, rfl, N, k2, hc⟩ := R
  have pm := pcW_mono v
  cases N with
  | nil => rw [foldT_nil]; exact ⟨v, [], 0, 0, rfl, .nil, by omega, by omega⟩
  | par N => rw [foldT_par]; exact ⟨v, us, 0, _, rfl, .par N, by omega, by omega⟩
  | or u N => rw [foldT_no rfl]; exact ⟨v, _, 1, _, rfl, .or u N, by omega, by omega⟩
  | then_ u N hk =>
    rw [foldT_yes rfl, fold_01 N hk]
    refine ⟨_, _, _, _, rfl, N, hk, ?_⟩
    show _ + (pcW u 1 + pcW v 2 + 0) ≤ c
    omega
  | nt N => omega
theorem fold_all_of {v : Cd} {us : List Cd} {ws : List Wt} {k m c : Nat} (N : Nr k us ws m) (hk : k ≤ 1) (hc : m + pcW v 1 ≤ c) : ∃ x us' m', foldT true (v :: us) ws = (x :: us', (foldT true (v :: us) ws).2) ∧ Nr 0 us' (foldT true (v :: us) ws).2 m' ∧ m' + pcW x 0 ≤ c := by
  have pm := pcW_mono v
  cases N with
  | nil => rw [foldT_nil]; exact ⟨v, [], 0, rfl, .nil, by omega⟩
  | par N => rw [foldT_par]; exact ⟨v, us, _, rfl, .par N, by omega⟩
  | or u N =>
    rw [foldT_yes rfl, fold_0 N]
    refine ⟨_, _, _, rfl, N, ?_⟩
    show _ + (pcW u 0 + pcW v 1 + 0) ≤ c
    omega
  | then_ => omega
  | nt => omega
theorem fold_all {vs : List Cd} {ws : List Wt} {c : Nat} (R : Rdy vs ws c) : ∃ x us m, foldT true vs ws = (x :: us, (foldT true vs ws).2) ∧ Nr 0 us (foldT true vs ws).2 m ∧ m + pcW x 0 ≤ c := by
  obtain ⟨v, us, k, m, rfl, N, k2, hc⟩ := R
  have pm := pcW_mono v
  by_cases hk : k ≤ 1
  · exact fold_all_of N hk (by omega)
  · cases N with
    | nil => omega
    | par N => omega
    | or u N => omega
    | nt N => omega
    | then_ u N hk2 =>
      rw [foldT_yes rfl]
      refine fold_all_of N hk2 ?_
      show _ + (pcW u 1 + pcW v 2 + 0) ≤ c
      omega
theorem un_rdy : ∀ {ws : List Wt} {v : Cd} {us : List Cd} {k m c : Nat}, Nr k us ws m → m + pcW v 2 ≤ c → Rdy (unN (v :: us) ws).1 (unN (v :: us) ws).2 c
  | [], v, us, k, m, c, N, h => by
    rw [unN_no rfl]
    exact ⟨v, us, k, m, rfl, N, by cases N; decide, h⟩
  | .par :: ws, v, us, k, m, c, N, h => by
    rw [unN_no rfl]
    exact ⟨v, us, k, m, rfl, N, by cases N; decide, h⟩
  | .op o :: ws, v, us, k, m, c, N, h => by
    rw [unN_no rfl]
    exact ⟨v, us, k, m, rfl, N, by cases N <;> decide, h⟩
  | .nt :: ws, v, us, k, m, c, N, h => by
    rw [unN_nt]
    cases N with
    | nt N => exact un_rdy (ws := ws) N h
theorem fold_mem {P : Bool} : ∀ {ws : List Wt} {vs : List Cd}, .par ∈ ws → .par ∈ (foldT P vs ws).2
  | [], _, h => by cases h
  | .par :: ws, vs, h => by rw [foldT_par]; exact h
  | .nt :: ws, vs, h => by rw [foldT_nt]; exact h
  | .op o :: ws, [], h => by rw [foldT_z]; exact h
  | .op o :: ws, [v], h => by rw [foldT_one]; exact h
  | .op o :: ws, s :: f :: vs, h => by
    by_cases k : (o || P) = true
    · rw [foldT_yes k]
      exact fold_mem (ws := ws) (by simpa using h)
    · rw [foldT_no (by simpa using k)]
      exact h
theorem fold_mem' {P : Bool} : ∀ {ws : List Wt} {vs : List Cd}, .par ∈ (foldT P vs ws).2 → .par ∈ ws
  | [], vs, h => by rw [foldT_nil] at h; exact h
  | .par :: ws, vs, h => by simp
  | .nt :: ws, vs, h => by rw [foldT_nt] at h; exact h
  | .op o :: ws, [], h => by rw [foldT_z] at h; exact h
  | .op o :: ws, [v], h => by rw [foldT_one] at h; exact h
  | .op o :: ws, s :: f :: vs, h => by
    by_cases k : (o || P) = true
    · rw [foldT_yes k] at h
      exact List.mem_cons_of_mem _ (fold_mem' (ws := ws) h)
    · rw [foldT_no (by simpa using k)] at h
      exact h
end DL
namespace DL
open PySem PySem.Spec PyProof.Rows L2
/-! a text that is read as w has pcW w 0 parentheses at least -/
def InvS (n : Nat) (s : St) : Prop := if s.rd = true then ∃ c, Rdy s.vs s.ws c ∧ c + cnt s.r ≤ n else ∃ k m, Nr k s.vs s.ws m ∧ m + cnt s.r ≤ n
theorem InvS.no {n : Nat} {s : St} (h : InvS n s) (e : s.rd = false) : ∃ k m, Nr k s.vs s.ws m ∧ m + cnt s.r ≤ n := by
  unfold InvS at h
  rwa [e, if_neg (by decide)] at h
theorem InvS.yes {n : Nat} {s : St} (h : InvS n s) (e : s.rd = true) : ∃ c, Rdy s.vs s.ws c ∧ c + cnt s.r ≤ n := by
  unfold InvS at h
  rwa [e, if_pos rfl] at h
theorem cnt_par (r : List Str) : cnt (tk "(" :: r) = cnt r + 1 := by
  unfold cnt
  rw [List.countP_cons, if_pos (by rw [decide_eq_true rfl])]
theorem turn_eqN (r : List Str) (vs : List Cd) (ws : List Wt) (z : Nat) : turnT ⟨r, false, vs, ws, z⟩ = if seeT r = tk "(" then .go ⟨r.tail, false, vs, .par :: ws, z⟩ else if seeT r = tk "not" then .go ⟨r.tail, false, vs, .nt :: ws, z⟩ else match takeF r with
    | none => .bad
    | some (w, r', dz) => .go ⟨r', true, (unN (w :: vs) ws).1, (unN (w :: vs) ws).2, z + dz⟩ := rfl
theorem turn_eqY (r : List Str) (vs : List Cd) (ws : List Wt) (z : Nat) : turnT ⟨r, true, vs, ws, z⟩ = if seeT r = tk "and" then .go ⟨r.tail, false, (foldT false vs ws).1, .op true :: (foldT false vs ws).2, z⟩
  else if seeT r = tk "or" then .go ⟨r.tail, false, (foldT true vs ws).1, .op false :: (foldT true vs ws).2, z⟩
  else if seeT r = tk ")" ∧ .par ∈ ws then .go ⟨r.tail, true, (unN (foldT true vs ws).1 (foldT true vs ws).2.tail).1, (unN (foldT true vs ws).1 (foldT true vs ws).2.tail).2, z⟩
  else .stop := rfl
theorem turn_inv {n : Nat} {s s' : St} (h : InvS n s) (e : turnT s = .go s') : InvS n s' ∧ s'.r.length < s.r.length := by
  obtain ⟨r, rd, vs, ws, z⟩ := s
  cases rd with
  | false =>
    obtain ⟨k, m, N, hm⟩ := h.no rfl
    dsimp only at N hm
    rw [turn_eqN] at e
    split at e
    · rename_i c
      cases e
      obtain ⟨r', rfl⟩ := see_ne c (by decide +kernel)
      have cp := cnt_par r'
      refine ⟨?_, ?_⟩
      · show ∃ k m, Nr k vs (.par :: ws) m ∧ m + cnt r' ≤ n
        exact ⟨0, m + 1, .par N, by omega⟩
      · show r'.length < r'.length + 1
        omega
    split at e
    · rename_i c
      cases e
      have l2 : Less r.tail r := less_see c (by decide +kernel)
      refine ⟨?_, l2.1⟩
      show ∃ k m, Nr k vs (.nt :: ws) m ∧ m + cnt r.tail ≤ n
      exact ⟨3, m, .nt N, by have := l2.2; omega⟩
    · split at e
      · cases e
      · rename_i w r' dz t
        cases e
        obtain ⟨⟨l1, l2⟩, p0⟩ := takeF_less t
        dsimp only at l1 l2 p0
        refine ⟨?_, l1⟩
        show ∃ c, Rdy (unN (w :: vs) ws).1 (unN (w :: vs) ws).2 c ∧ c + cnt r' ≤ n
        exact ⟨m, un_rdy N (by omega), by omega⟩
  | true =>
    obtain ⟨c, R, hc⟩ := h.yes rfl
    dsimp only at R hc
    rw [turn_eqY] at e
    split at e
    · rename_i b
      cases e
      have l2 : Less r.tail r := less_see b (by decide +kernel)
      obtain ⟨x, us, k, m, e1, N, hk, hm⟩ := fold_then R
      refine ⟨?_, l2.1⟩
      show ∃ k m, Nr k (foldT false vs ws).1 (.op true :: (foldT false vs ws).2) m ∧ m + cnt r.tail ≤ n
      rw [show (foldT false vs ws).1 = x :: us from by rw [e1]]
      exact ⟨2, _, .then_ x N hk, by have := l2.2; omega⟩
    split at e
    · rename_i b
      cases e
      have l2 : Less r.tail r := less_see b (by decide +kernel)
      obtain ⟨x, us, m, e1, N, hm⟩ := fold_all R
      refine ⟨?_, l2.1⟩
      show ∃ k m, Nr k (foldT true vs ws).1 (.op false :: (foldT true vs ws).2) m ∧ m + cnt r.tail ≤ n
      rw [show (foldT true vs ws).1 = x :: us from by rw [e1]]
      exact ⟨1, _, .or x N, by have := l2.2; omega⟩
    split at e
    · rename_i b
      cases e
      have l2 : Less r.tail r := less_see b.1 (by decide +kernel)
      obtain ⟨x, us, m, e1, N, hm⟩ := fold_all R
      have mm := fold_mem (vs := vs) (P := true) b.2
      refine ⟨?_, l2.1⟩
      show ∃ c, Rdy (unN (foldT true vs ws).1 (foldT true vs ws).2.tail).1 (unN (foldT true vs ws).1 (foldT true vs ws).2.tail).2 c ∧ c + cnt r.tail ≤ n
      rw [show (foldT true vs ws).1 = x :: us from by rw [e1]]
      generalize (foldT true vs ws).2 = w2 at N mm ⊢
      have px := pcW_mono x
      cases N with
      | nil => cases mm
      | par N => exact ⟨_, un_rdy N (Nat.le_refl _), by have := l2.2; omega⟩
    · cases e
theorem run_inv : ∀ {m n : Nat} {s s' : St}, InvS n s → runT m s = some s' → InvS n s' ∧ turnT s' = .stop
  | 0, _, _, _, _, h => by cases h
  | m + 1, n, s, s', I, h => by
    unfold runT at h
    split at h
    · cases h
    · rename_i e
      cases h
      exact ⟨I, e⟩
    · rename_i s1 e
      exact run_inv (turn_inv I e).1 h
theorem stop_rd {s : St} (h : turnT s = .stop) : s.rd = true := by
  obtain ⟨r, rd, vs, ws, z⟩ := s
  cases rd with
  | true => rfl
  | false =>
    rw [turn_eqN] at h
    split at h
    · cases h
    · split at h
      · cases h
      · split at h <;> cases h
theorem inv_0 (T : List Str) : InvS (cnt T) ⟨T, false, [], [], 0⟩ := by
  show ∃ k m, Nr k [] [] m ∧ m + cnt T ≤ cnt T
  exact ⟨0, 0, .nil, by omega⟩
theorem end_inv {n : Nat} {s : St} {p : Cd × List Str × Nat} (I : InvS n s) (h : turnT s = .stop) (e : endT s = some p) : pcW p.1 0 + cnt p.2.1 ≤ n ∧ p.2.1 = s.r := by
  obtain ⟨c, R, hc⟩ := I.yes (stop_rd h)
  unfold endT at e
  split at e
  · cases e
  · obtain ⟨x, us, m, e1, N, hm⟩ := fold_all R
    rw [show (foldT true s.vs s.ws).1 = x :: us from by rw [e1]] at e
    cases e
    exact ⟨by dsimp only; omega, rfl⟩
theorem whole_count {T : List Str} {w : Cd} (h : wholeT T = some w) : pcW w 0 ≤ cnt T := by
  unfold wholeT altT at h
  cases e : runT (T.length + 1) ⟨T, false, [], [], 0⟩ with
  | none => rw [e] at h; cases h
  | some s =>
    rw [e] at h
    obtain ⟨I, st⟩ := run_inv (inv_0 T) e
    dsimp only at h
    cases e2 : endT s with
    | none => rw [e2] at h; cases h
    | some p =>
      rw [e2] at h
      obtain ⟨w', r', z'⟩ := p
      cases r' with
      | cons _ _ => cases h
      | nil =>
        cases z' with
        | succ _ => cases h
        | zero =>
          cases h
          have := (end_inv I st e2).1
          dsimp only at this
          omega
/-! the reader reads the writer's text back -/
inductive Rch : St → St → Prop
  | refl (s) : Rch s s
  | step {s s1 s2} : turnT s = .go s1 → Rch s1 s2 → Rch s s2
theorem Rch.trans {a b c : St} (h : Rch a b) (k : Rch b c) : Rch a c := by
  induction h with
  | refl => exact k
  | step e _ ih => exact .step e (ih k)
theorem Rch.one {a b : St} (h : turnT a = .go b) : Rch a b := .step h (.refl _)
theorem run_rch {n : Nat} {s s' : St} (h : Rch s s') : ∀ {m : Nat}, InvS n s → s.r.length < m → turnT s' = .stop → runT m s = some s' := by
  induction h with
  | refl s =>
    intro m I l st
    cases m with
    | zero => omega
    | succ m => unfold runT; rw [st]
  | step e _ ih =>
    intro m I l st
    cases m with
    | zero => omega
    | succ m =>
      obtain ⟨I1, l1⟩ := turn_inv I e
      unfold runT
      rw [e]
      exact ih I1 (by omega) st
end DL
namespace DL
open PySem PySem.Spec PyProof.Rows L2
theorem gdN_ne {z s : Str} (h : gdN z = true) (hs : gdN s = false) : z ≠ s := fun e => by rw [e, hs] at h; cases h
theorem ng_e : gdN (tk "") = false := by decide +kernel
theorem ng_thing : gdN (tk "thing") = false := by decide +kernel
/-! numbers -/
theorem numL_head : ∀ n : Nat, 1 ≤ n → (TL.numL n).head? ≠ some 48 := by
  intro n
  induction n using Nat.strongRecOn with
  | _ n ih =>
    intro h
    by_cases l : n < 10
    · rw [TL.numL_lt l]
      simp
      omega
    · rw [TL.numL_step (by omega)]
      have i := ih (n / 10) (by omega) (by omega)
      cases e : TL.numL (n / 10) with
      | nil => exact (TL.numL_ne _ e).elim
      | cons a r => rw [e] at i; simpa using i
theorem numS_cps (n : Nat) : (numS n).cps.toList = TL.numL n := TL.tl_num n
theorem num_back {n : Nat} (h1 : 1 ≤ n) (h4 : n ≤ 9999) : numOk (numS n) = some n := by
  have ln : (numS n).length = (TL.numL n).length := by
    have : (numS n).cps.toList.length = (numS n).length := Array.length_toList
    rw [← this, numS_cps]
  have l4 : (TL.numL n).length ≤ 4 := TL.numL_len (by decide) (by omega)
  have l1 : 1 ≤ (TL.numL n).length := by
    cases e : TL.numL n with
    | nil => exact (TL.numL_ne _ e).elim
    | cons a r => simp
  unfold numOk
  rw [numS_cps, ln]
  have dg : (TL.numL n).all digB = true := List.all_eq_true.mpr fun c hc => by
    have := TL.numL_digits n c hc
    unfold digB
    rw [decide_eq_true this.1, decide_eq_true this.2]
    rfl
  rw [if_pos ⟨⟨l1, l4⟩, dg, .inr (numL_head n h1)⟩]
  exact congrArg some (TL.numL_val n)
/-! which ops stand behind a condition of level n -/
def Kc (n : Nat) : List Wt → Prop
  | .op true :: _ => 2 ≤ n
  | .op false :: _ => 1 ≤ n
  | .nt :: _ => 2 ≤ n
  | _ => True
theorem Kc.up {n m : Nat} {ws : List Wt} (h : Kc n ws) (l : n ≤ m) : Kc m ws := by
  cases ws with
  | nil => trivial
  | cons o ws =>
    cases o with
    | par => trivial
    | nt => unfold Kc at h ⊢; omega
    | op o => cases o <;> (unfold Kc at h ⊢; omega)
theorem Kc.two (ws : List Wt) : Kc 2 ws := by
  cases ws with
  | nil => trivial
  | cons o ws =>
    cases o with
    | par => trivial
    | nt => unfold Kc; omega
    | op o => cases o <;> (unfold Kc; omega)
theorem Kc.top {n : Nat} {ws : List Wt} (h : Kc n ws) (l : n ≤ 1) : topN ws = false := by
  cases ws with
  | nil => rfl
  | cons o ws =>
    cases o with
    | par => rfl
    | op o => rfl
    | nt => have h : 2 ≤ n := h; omega
def fN (n : Nat) (p : List Cd × List Wt) : List Cd × List Wt := if n = 0 then foldT true p.1 p.2 else if n = 1 then foldT false p.1 p.2 else p
theorem fN_same {n : Nat} {v : Cd} {vs : List Cd} {ws : List Wt} (h : Kc n ws) : fN n (v :: vs, ws) = (v :: vs, ws) := by
  unfold fN
  dsimp only
  cases vs with
  | nil =>
    rw [foldT_one, foldT_one]
    repeat' split
    all_goals rfl
  | cons u vs =>
    cases ws with
    | nil =>
      rw [foldT_nil, foldT_nil]
      repeat' split
      all_goals rfl
    | cons o ws =>
      cases o with
      | par =>
        rw [foldT_par, foldT_par]
        repeat' split
        all_goals rfl
      | nt =>
        rw [foldT_nt, foldT_nt]
        repeat' split
        all_goals rfl
      | op o =>
        cases o with
        | true =>
          have h : 2 ≤ n := h
          rw [if_neg (by omega), if_neg (by omega)]
        | false =>
          have h : 1 ≤ n := h
          rw [if_neg (by omega)]
          split
          · exact foldT_no rfl _ _ _ _
          · rfl
theorem fN_un {n : Nat} (hn : n ≤ 2) {v : Cd} {vs : List Cd} {ws : List Wt} (h : Kc n ws) : fN n (unN (v :: vs) ws) = unN (v :: vs) ws := by
  by_cases l : n ≤ 1
  · rw [unN_no (h.top l)]
    exact fN_same h
  · unfold fN
    rw [if_neg (by omega), if_neg (by omega)]
theorem fold_twice : ∀ (ws : List Wt) (vs : List Cd), foldT true (foldT false vs ws).1 (foldT false vs ws).2 = foldT true vs ws
  | [], vs => by rw [foldT_nil]
  | .par :: ws, vs => by rw [foldT_par]
  | .nt :: ws, vs => by rw [foldT_nt]
  | .op o :: ws, [] => by rw [foldT_z]
  | .op o :: ws, [v] => by rw [foldT_one]
  | .op true :: ws, s :: f :: vs => by
    rw [foldT_yes (P := false) rfl, foldT_yes (P := true) rfl]
    exact fold_twice ws _
  | .op false :: ws, s :: f :: vs => by rw [foldT_no (P := false) rfl]
/-! facts -/
theorem takeN_g {z : Str} (r : List Str) (h : gdN z = true) : takeN (z :: r) = some (z, r) := by rw [takeN, if_pos h]
theorem see_c (z : Str) (r : List Str) : seeT (z :: r) = z := rfl
theorem fr_back {k : Nat} (h : k < 3) : frN (frT k) = some k ∧ frT k ≠ tk "now" ∧ frT k ≠ tk "0" ∧ frT k ≠ tk "(" ∧ frT k ≠ tk "not" ∧ frT k ≠ tk "always" ∧ frT k ≠ tk "@" ∧ frT k ≠ tk "by" := by
  rcases (show k = 0 ∨ k = 1 ∨ k = 2 by omega) with rfl | rfl | rfl <;> exact ⟨by decide +kernel, by decide +kernel, by decide +kernel, by decide +kernel, by decide +kernel, by decide +kernel, by decide +kernel, by decide +kernel⟩
theorem sd_back {s : Sd} (G : SdG s) (r : List Str) : takeSd (sdT s ++ r) = some (s, r) := by
  cases s with
  | wd b =>
    cases b with
    | true =>
      unfold takeSd
      rw [if_pos (show seeT (sdT (.wd true) ++ r) = tk "now" from rfl)]
      rfl
    | false =>
      unfold takeSd
      rw [if_neg (show ¬ seeT (sdT (.wd false) ++ r) = tk "now" from (by decide +kernel : ¬ wdT false = tk "now")), if_pos (show seeT (sdT (.wd false) ++ r) = tk "0" from rfl)]
      rfl
  | fld k n =>
    obtain ⟨hk, g⟩ := G
    obtain ⟨f1, f2, f3, _⟩ := fr_back hk
    show takeSd (frT k :: tk "." :: n :: r) = _
    unfold takeSd
    rw [see_c, if_neg f2, if_neg f3, f1]
    dsimp only
    rw [if_pos (show seeT (frT k :: tk "." :: n :: r).tail = tk "." from rfl)]
    show (takeN (n :: r)).map _ = _
    rw [takeN_g _ g]
    rfl
/-- the head of a side -/
theorem sd_head {s : Sd} (G : SdG s) : ∃ z r, sdT s = z :: r ∧ z ≠ tk "(" ∧ z ≠ tk "not" ∧ z ≠ tk "always" ∧ z ≠ tk "@" ∧ z ≠ tk "by" ∧ ∀ r2, ¬ ((frN z).isSome = true ∧ seeT (r ++ tk "<=" :: r2) = tk "is") := by
  cases s with
  | wd b =>
    refine ⟨wdT b, [], rfl, ?_, ?_, ?_, ?_, ?_, fun r2 h => ?_⟩
    · cases b <;> decide +kernel
    · cases b <;> decide +kernel
    · cases b <;> decide +kernel
    · cases b <;> decide +kernel
    · cases b <;> decide +kernel
    · exact absurd (show tk "<=" = tk "is" from h.2) (by decide +kernel)
  | fld k n =>
    obtain ⟨f1, f2, f3, f4, f5, f6, f7, f8⟩ := fr_back G.1
    exact ⟨frT k, [tk ".", n], rfl, f4, f5, f6, f7, f8, fun r2 h => absurd (show tk "." = tk "is" from h.2) (by decide +kernel)⟩
def RestOk (r : List Str) : Prop := seeT r ≠ tk "+" ∧ seeT r ≠ tk "-"
theorem gap_back {l rr : Sd} {g : Int} {r : List Str} (hg : g.natAbs ≤ 9999) (hr : RestOk r) : takeGp l rr (gapT g ++ r) = some (.atm l rr g, r, 0) := by
  by_cases z : g = 0
  · subst z
    unfold takeGp
    rw [show gapT 0 ++ r = r from rfl, if_neg (fun h => h.elim hr.1 hr.2)]
  · have e : gapT g = [if 0 < g then tk "+" else tk "-", numS g.natAbs] := by unfold gapT; rw [if_neg z]
    rw [e]
    have nb := num_back (n := g.natAbs) (by omega) hg
    by_cases p : 0 < g
    · rw [if_pos p]
      show takeGp l rr (tk "+" :: numS g.natAbs :: r) = _
      unfold takeGp
      rw [see_c, if_pos (.inl rfl)]
      rw [show seeT (tk "+" :: numS g.natAbs :: r).tail = numS g.natAbs from rfl, nb]
      dsimp only
      rw [if_pos rfl, if_neg (by omega), show ((g.natAbs : Nat) : Int) = g by omega]
      rfl
    · rw [if_neg p]
      show takeGp l rr (tk "-" :: numS g.natAbs :: r) = _
      unfold takeGp
      rw [see_c, if_pos (.inr rfl)]
      rw [show seeT (tk "-" :: numS g.natAbs :: r).tail = numS g.natAbs from rfl, nb]
      dsimp only
      rw [if_neg (by decide +kernel), if_neg (by omega), show -((g.natAbs : Nat) : Int) = g by omega]
      rfl
def isFact : Cd → Prop
  | .nt _ => False
  | .bin _ _ _ => False
  | _ => True
theorem fact_back {w : Cd} (G : CdG w) (f : isFact w) {r : List Str} (hr : RestOk r) (n : Nat) : takeF (cdT w n ++ r) = some (w, r, 0) ∧ seeT (cdT w n ++ r) ≠ tk "(" ∧ seeT (cdT w n ++ r) ≠ tk "not" := by
  cases w with
  | nt c => exact f.elim
  | bin o a b => exact f.elim
  | always =>
    refine ⟨?_, (by decide +kernel : tk "always" ≠ tk "("), (by decide +kernel : tk "always" ≠ tk "not")⟩
    show takeF (tk "always" :: r) = _
    unfold takeF
    rw [see_c, if_neg (fun h => absurd h.1 (by decide +kernel)), if_pos rfl]
    rfl
  | named m =>
    have G : gdN m = true := G
    refine ⟨?_, (by decide +kernel : tk "@" ≠ tk "("), (by decide +kernel : tk "@" ≠ tk "not")⟩
    show takeF (tk "@" :: m :: r) = _
    unfold takeF
    rw [see_c, if_neg (fun h => absurd h.1 (by decide +kernel)), if_neg (by decide +kernel), if_pos rfl]
    show (takeN (m :: r)).map _ = _
    rw [takeN_g _ G]
    rfl
  | flag m =>
    have G : gdN m = true := G
    refine ⟨?_, (by decide +kernel : tk "ask" ≠ tk "("), (by decide +kernel : tk "ask" ≠ tk "not")⟩
    show takeF (tk "ask" :: tk "is" :: m :: r) = _
    unfold takeF
    rw [see_c, if_pos ⟨by decide +kernel, rfl⟩]
    show (takeN (m :: r)).map _ = _
    rw [takeN_g _ G, show (frN (tk "ask")).getD 0 = 2 from by decide +kernel]
    rfl
  | tag k m =>
    obtain ⟨hk, G⟩ := G
    obtain ⟨f1, f2, f3, f4, f5, _⟩ := fr_back (show k < 3 by omega)
    refine ⟨?_, f4, f5⟩
    show takeF (frT k :: tk "is" :: m :: r) = _
    unfold takeF
    rw [see_c, if_pos ⟨by rw [f1]; rfl, rfl⟩]
    show (takeN (m :: r)).map _ = _
    rw [takeN_g _ G, f1]
    show some (isF k m, r, 0) = _
    unfold isF
    rw [if_neg (by omega)]
  | walk m o =>
    obtain ⟨G1, G2⟩ := G
    refine ⟨?_, (by decide +kernel : tk "by" ≠ tk "("), (by decide +kernel : tk "by" ≠ tk "not")⟩
    show takeF (tk "by" :: m :: tk "to" :: o :: r) = _
    unfold takeF
    rw [see_c, if_neg (fun h => absurd h.1 (by decide +kernel)), if_neg (by decide +kernel), if_neg (by decide +kernel), if_pos rfl]
    rw [show (tk "by" :: m :: tk "to" :: o :: r).tail = m :: tk "to" :: o :: r from rfl, takeN_g _ G1]
    dsimp only
    unfold takeBy
    rw [see_c, if_pos rfl]
    rw [show (tk "to" :: o :: r).tail = o :: r from rfl, see_c]
    rcases G2 with e | g
    · rw [if_pos e, e]
      rfl
    · rw [if_neg (gdN_ne g ng_thing), takeN_g _ g]
      rfl
  | atm l rr g =>
    obtain ⟨G1, G2, G3⟩ := G
    obtain ⟨z, t, ez, n1, n2, n3, n4, n5, n6⟩ := sd_head G1
    have e0 : cdT (.atm l rr g) n ++ r = sdT l ++ tk "<=" :: (sdT rr ++ (gapT g ++ r)) := by
      show (sdT l ++ tk "<=" :: (sdT rr ++ gapT g)) ++ r = _
      rw [List.append_assoc, List.cons_append, List.append_assoc]
    have es : seeT (cdT (.atm l rr g) n ++ r) = z := by rw [e0, ez]; rfl
    refine ⟨?_, by rw [es]; exact n1, by rw [es]; exact n2⟩
    unfold takeF
    rw [es, if_neg (by rw [e0, ez]; exact n6 _), if_neg n3, if_neg n4, if_neg n5, e0]
    unfold takeAt
    rw [sd_back G1]
    dsimp only
    rw [see_c, if_pos rfl, show (tk "<=" :: (sdT rr ++ (gapT g ++ r))).tail = sdT rr ++ (gapT g ++ r) from rfl, sd_back G2]
    dsimp only
    exact gap_back G3 hr
/-! turns -/
theorem turn_open {r : List Str} {vs : List Cd} {ws : List Wt} {z : Nat} : turnT ⟨tk "(" :: r, false, vs, ws, z⟩ = .go ⟨r, false, vs, .par :: ws, z⟩ := by
  rw [turn_eqN, see_c, if_pos rfl]
  rfl
theorem turn_not {r : List Str} {vs : List Cd} {ws : List Wt} {z : Nat} : turnT ⟨tk "not" :: r, false, vs, ws, z⟩ = .go ⟨r, false, vs, .nt :: ws, z⟩ := by
  rw [turn_eqN, see_c, if_neg (by decide +kernel), if_pos rfl]
  rfl
theorem turn_fact {r : List Str} {vs : List Cd} {ws : List Wt} {z dz : Nat} {w : Cd} {r' : List Str} (h1 : seeT r ≠ tk "(") (h2 : seeT r ≠ tk "not") (e : takeF r = some (w, r', dz)) : turnT ⟨r, false, vs, ws, z⟩ = .go ⟨r', true, (unN (w :: vs) ws).1, (unN (w :: vs) ws).2, z + dz⟩ := by
  rw [turn_eqN, if_neg h1, if_neg h2, e]
theorem turn_and {r : List Str} {vs : List Cd} {ws : List Wt} {z : Nat} : turnT ⟨tk "and" :: r, true, vs, ws, z⟩ = .go ⟨r, false, (foldT false vs ws).1, .op true :: (foldT false vs ws).2, z⟩ := by
  rw [turn_eqY, see_c, if_pos rfl]
  rfl
theorem turn_or {r : List Str} {vs : List Cd} {ws : List Wt} {z : Nat} : turnT ⟨tk "or" :: r, true, vs, ws, z⟩ = .go ⟨r, false, (foldT true vs ws).1, .op false :: (foldT true vs ws).2, z⟩ := by
  rw [turn_eqY, see_c, if_neg (by decide +kernel), if_pos rfl]
  rfl
theorem turn_close {r : List Str} {vs : List Cd} {ws : List Wt} {z : Nat} (h : .par ∈ ws) : turnT ⟨tk ")" :: r, true, vs, ws, z⟩ = .go ⟨r, true, (unN (foldT true vs ws).1 (foldT true vs ws).2.tail).1, (unN (foldT true vs ws).1 (foldT true vs ws).2.tail).2, z⟩ := by
  rw [turn_eqY, see_c, if_neg (by decide +kernel), if_neg (by decide +kernel), if_pos ⟨rfl, h⟩]
  rfl
/-- a condition of this level is read -/
def Rb (T : List Str) (w : Cd) (n : Nat) : Prop := ∀ (vs : List Cd) (ws : List Wt) (rest : List Str), Kc n ws → RestOk rest → ∃ vs' ws', Rch ⟨T ++ rest, false, vs, ws, 0⟩ ⟨rest, true, vs', ws', 0⟩ ∧ fN n (vs', ws') = unN (w :: vs) ws
theorem Rb.of2 {T : List Str} {w : Cd} (h : ∀ (vs : List Cd) (ws : List Wt) (rest : List Str), RestOk rest → Rch ⟨T ++ rest, false, vs, ws, 0⟩ ⟨rest, true, (unN (w :: vs) ws).1, (unN (w :: vs) ws).2, 0⟩) {n : Nat} (hn : n ≤ 2) : Rb T w n := fun vs ws rest k hr => ⟨_, _, h vs ws rest hr, fN_un hn k⟩
theorem Rb.two {T : List Str} {w : Cd} (h : Rb T w 2) {vs : List Cd} {ws : List Wt} {rest : List Str} (hr : RestOk rest) : Rch ⟨T ++ rest, false, vs, ws, 0⟩ ⟨rest, true, (unN (w :: vs) ws).1, (unN (w :: vs) ws).2, 0⟩ := by
  obtain ⟨vs', ws', R, e⟩ := h vs ws rest (.two _) hr
  have e : (vs', ws') = unN (w :: vs) ws := e
  rw [← e]
  exact R
theorem rest_c (r : List Str) : RestOk (tk ")" :: r) := ⟨by show tk ")" ≠ tk "+"; decide +kernel, by show tk ")" ≠ tk "-"; decide +kernel⟩
theorem rest_a (r : List Str) : RestOk (tk "and" :: r) := ⟨by show tk "and" ≠ tk "+"; decide +kernel, by show tk "and" ≠ tk "-"; decide +kernel⟩
theorem rest_o (r : List Str) : RestOk (tk "or" :: r) := ⟨by show tk "or" ≠ tk "+"; decide +kernel, by show tk "or" ≠ tk "-"; decide +kernel⟩
theorem rest_e : RestOk [] := ⟨by show tk "" ≠ tk "+"; decide +kernel, by show tk "" ≠ tk "-"; decide +kernel⟩
theorem Rb.paren {T : List Str} {w : Cd} (h : Rb T w 0) {n : Nat} (hn : n ≤ 2) : Rb (tk "(" :: (T ++ [tk ")"])) w n := by
  refine .of2 (fun vs ws rest hr => ?_) hn
  obtain ⟨vs', ws', R, e⟩ := h vs (.par :: ws) (tk ")" :: rest) trivial (rest_c _)
  have e : foldT true vs' ws' = (w :: vs, .par :: ws) := by
    have e : foldT true vs' ws' = unN (w :: vs) (.par :: ws) := e
    rw [e, unN_no rfl]
  refine .step (s1 := ⟨(T ++ [tk ")"]) ++ rest, false, vs, .par :: ws, 0⟩) turn_open ?_
  rw [List.append_assoc]
  refine R.trans (.one ?_)
  have mm : .par ∈ ws' := fold_mem' (P := true) (vs := vs') (by rw [e]; simp)
  rw [turn_close mm, e]
  rfl
theorem Rb.and {A B : List Str} {a b : Cd} (ha : Rb A a 1) (hb : Rb B b 2) {n : Nat} (hn : n ≤ 1) : Rb (A ++ tk "and" :: B) (.bin true a b) n := by
  intro vs ws rest k hr
  obtain ⟨vs1, ws1, R1, e1⟩ := ha vs ws (tk "and" :: (B ++ rest)) (k.up hn) (rest_a _)
  have e1 : foldT false vs1 ws1 = (a :: vs, ws) := by
    have e1 : foldT false vs1 ws1 = unN (a :: vs) ws := e1
    rw [e1, unN_no (k.top hn)]
  refine ⟨b :: a :: vs, .op true :: ws, ?_, ?_⟩
  · rw [List.append_assoc]
    refine R1.trans ?_
    have t := turn_and (r := B ++ rest) (vs := vs1) (ws := ws1) (z := 0)
    rw [e1] at t
    have R2 := hb.two (vs := a :: vs) (ws := .op true :: ws) hr
    rw [unN_no rfl] at R2
    exact .step t R2
  · have e2 : fN n (b :: a :: vs, .op true :: ws) = fN n (.bin true a b :: vs, ws) := by
      unfold fN
      dsimp only
      split
      · exact foldT_yes rfl _ _ _ _
      · rw [if_pos (by omega), if_pos (by omega)]
        exact foldT_yes rfl _ _ _ _
    rw [e2, unN_no (k.top hn)]
    exact fN_same k
theorem Rb.or {A B : List Str} {a b : Cd} (ha : Rb A a 0) (hb : Rb B b 1) : Rb (A ++ tk "or" :: B) (.bin false a b) 0 := by
  intro vs ws rest k hr
  obtain ⟨vs1, ws1, R1, e1⟩ := ha vs ws (tk "or" :: (B ++ rest)) k (rest_o _)
  have e1 : foldT true vs1 ws1 = (a :: vs, ws) := by
    have e1 : foldT true vs1 ws1 = unN (a :: vs) ws := e1
    rw [e1, unN_no (k.top (by omega))]
  obtain ⟨vs2, ws2, R2, e2⟩ := hb (a :: vs) (.op false :: ws) rest (Nat.le_refl 1) hr
  have e2 : foldT false vs2 ws2 = (b :: a :: vs, .op false :: ws) := by
    have e2 : foldT false vs2 ws2 = unN (b :: a :: vs) (.op false :: ws) := e2
    rw [e2, unN_no rfl]
  refine ⟨vs2, ws2, ?_, ?_⟩
  · rw [List.append_assoc]
    refine R1.trans ?_
    have t := turn_or (r := B ++ rest) (vs := vs1) (ws := ws1) (z := 0)
    rw [e1] at t
    exact .step t R2
  · show foldT true vs2 ws2 = _
    rw [← fold_twice, e2, foldT_yes rfl, unN_no (k.top (by omega))]
    exact fN_same (n := 0) k
theorem read_back : ∀ {w : Cd} (n : Nat), n ≤ 2 → CdG w → Rb (cdT w n) w n
  | .always, n, hn, G => .of2 (fun vs ws rest hr => .one (turn_fact (fact_back G trivial hr n).2.1 (fact_back G trivial hr n).2.2 (fact_back G trivial hr n).1)) hn
  | .named _, n, hn, G => .of2 (fun vs ws rest hr => .one (turn_fact (fact_back G trivial hr n).2.1 (fact_back G trivial hr n).2.2 (fact_back G trivial hr n).1)) hn
  | .flag _, n, hn, G => .of2 (fun vs ws rest hr => .one (turn_fact (fact_back G trivial hr n).2.1 (fact_back G trivial hr n).2.2 (fact_back G trivial hr n).1)) hn
  | .tag _ _, n, hn, G => .of2 (fun vs ws rest hr => .one (turn_fact (fact_back G trivial hr n).2.1 (fact_back G trivial hr n).2.2 (fact_back G trivial hr n).1)) hn
  | .walk _ _, n, hn, G => .of2 (fun vs ws rest hr => .one (turn_fact (fact_back G trivial hr n).2.1 (fact_back G trivial hr n).2.2 (fact_back G trivial hr n).1)) hn
  | .atm _ _ _, n, hn, G => .of2 (fun vs ws rest hr => .one (turn_fact (fact_back G trivial hr n).2.1 (fact_back G trivial hr n).2.2 (fact_back G trivial hr n).1)) hn
  | .nt c, n, hn, G => .of2 (fun vs ws rest hr => by
      have R := (read_back (w := c) 2 (Nat.le_refl _) G).two (vs := vs) (ws := .nt :: ws) hr
      rw [unN_nt] at R
      exact .step turn_not R) hn
  | .bin true a b, n, hn, G => by
    have c : ∀ m, m ≤ 1 → Rb (cdT a 1 ++ tk "and" :: cdT b 2) (.bin true a b) m := fun m hm => (read_back (w := a) 1 (by omega) G.1).and (read_back (w := b) 2 (by omega) G.2) hm
    show Rb (enc 1 n _) _ _
    unfold enc
    split
    · rename_i h; exact c n h
    · exact (c 0 (by omega)).paren hn
  | .bin false a b, n, hn, G => by
    have c : Rb (cdT a 0 ++ tk "or" :: cdT b 1) (.bin false a b) 0 := (read_back (w := a) 0 (by omega) G.1).or (read_back (w := b) 1 (by omega) G.2)
    show Rb (enc 0 n _) _ _
    unfold enc
    split
    · rename_i h
      have e : n = 0 := by omega
      subst e
      exact c
    · exact c.paren hn
theorem stop_end {vs : List Cd} {ws : List Wt} {z : Nat} : turnT ⟨[], true, vs, ws, z⟩ = .stop := by
  rw [turn_eqY, show seeT [] = tk "" from rfl, if_neg (by decide +kernel), if_neg (by decide +kernel), if_neg (fun q => absurd q.1 (by decide +kernel))]
theorem whole_back {w : Cd} (G : CdG w) : wholeT (cdT w 0) = some w := by
  obtain ⟨vs', ws', R, e⟩ := read_back (w := w) 0 (by omega) G [] [] [] trivial rest_e
  have e : foldT true vs' ws' = ([w], []) := by
    have e : foldT true vs' ws' = unN [w] [] := e
    rw [e, unN_no rfl]
  rw [List.append_nil] at R
  have r := run_rch R (m := (cdT w 0).length + 1) (inv_0 _) (by show (cdT w 0).length < _; omega) stop_end
  unfold wholeT altT
  rw [r]
  dsimp only
  have nn : .par ∉ ws' := fun q => by
    have := fold_mem (P := true) (vs := vs') q
    rw [e] at this
    cases this
  unfold endT
  rw [if_neg nn]
  dsimp only
  rw [e]
  first
    | done
    | rfl
theorem cnt_app (a b : List Str) : cnt (a ++ b) = cnt a + cnt b := List.countP_append
theorem cnt_one {z : Str} (h : z ≠ tk "(") (r : List Str) : cnt (z :: r) = cnt r := by
  unfold cnt
  rw [List.countP_cons, if_neg (by rw [decide_eq_false h]; decide)]
  rfl
theorem cnt_enc (l n : Nat) (T : List Str) : cnt (enc l n T) = cnt T + (if n ≤ l then 0 else 1) := by
  unfold enc
  split
  · rfl
  · rw [cnt_par, cnt_app, cnt_one (by decide +kernel)]
    rfl
theorem gd_no {z : Str} (g : gdN z = true) : z ≠ tk "(" := gdN_ne g (by decide +kernel)
theorem fr_no (k : Nat) : frT k ≠ tk "(" := by
  unfold frT
  split <;> decide +kernel
theorem cnt_sd {s : Sd} (G : SdG s) : cnt (sdT s) = 0 := by
  cases s with
  | wd b =>
    show cnt [wdT b] = 0
    rw [cnt_one (by cases b <;> decide +kernel)]
    rfl
  | fld k n =>
    show cnt [frT k, tk ".", n] = 0
    rw [cnt_one (fr_no k), cnt_one (by decide +kernel), cnt_one (gd_no G.2)]
    rfl
theorem num_no (n : Nat) : numS n ≠ tk "(" := fun e => by
  have h := congrArg (fun s : Str => s.cps.toList) e
  have h : (numS n).cps.toList = (tk "(").cps.toList := h
  rw [numS_cps, show (tk "(").cps.toList = [40] from by decide +kernel] at h
  have := TL.numL_digits n 40 (by rw [h]; simp)
  omega
theorem cnt_gap (g : Int) : cnt (gapT g) = 0 := by
  unfold gapT
  split
  · rfl
  · rw [cnt_one (by split <;> decide +kernel), cnt_one (num_no _)]
    rfl
theorem cnt_cd : ∀ {w : Cd} (n : Nat), CdG w → cnt (cdT w n) = pcW w n
  | .always, n, G => by show cnt [tk "always"] = 0; rw [cnt_one (by decide +kernel)]; rfl
  | .named m, n, G => by show cnt [tk "@", m] = 0; rw [cnt_one (by decide +kernel), cnt_one (gd_no G)]; rfl
  | .flag m, n, G => by show cnt [tk "ask", tk "is", m] = 0; rw [cnt_one (by decide +kernel), cnt_one (by decide +kernel), cnt_one (gd_no G)]; rfl
  | .tag k m, n, G => by show cnt [frT k, tk "is", m] = 0; rw [cnt_one (fr_no k), cnt_one (by decide +kernel), cnt_one (gd_no G.2)]; rfl
  | .walk m o, n, G => by
    have ho : o ≠ tk "(" := by
      rcases G.2 with e | g
      · rw [e]; decide +kernel
      · exact gd_no g
    show cnt [tk "by", m, tk "to", o] = 0
    rw [cnt_one (by decide +kernel), cnt_one (gd_no G.1), cnt_one (by decide +kernel), cnt_one ho]
    rfl
  | .atm l r g, n, G => by
    show cnt (sdT l ++ tk "<=" :: (sdT r ++ gapT g)) = 0
    rw [cnt_app, cnt_sd G.1, cnt_one (by decide +kernel), cnt_app, cnt_sd G.2.1, cnt_gap]
  | .nt c, n, G => by
    show cnt (tk "not" :: cdT c 2) = pcW c 2
    rw [cnt_one (by decide +kernel)]
    exact cnt_cd (w := c) 2 G
  | .bin true a b, n, G => by
    show cnt (enc 1 n (cdT a 1 ++ tk "and" :: cdT b 2)) = _
    rw [cnt_enc, cnt_app, cnt_one (by decide +kernel), cnt_cd 1 G.1, cnt_cd 2 G.2]
    rfl
  | .bin false a b, n, G => by
    show cnt (enc 0 n (cdT a 0 ++ tk "or" :: cdT b 1)) = _
    rw [cnt_enc, cnt_app, cnt_one (by decide +kernel), cnt_cd 0 G.1, cnt_cd 1 G.2]
    rfl
end DL
namespace DL
open PySem PySem.Spec PyProof.Rows L2
local macro_rules | `(tactic| walk_at "ev") => `(tactic| try simp only [e_seq, e_next, e_brk, e_cnt, e_drop, e_ret, e_retN, e_ifS, e_asg, e_gN, e_gSb, e_gTp, e_gCn, e_gNl, e_var, e_varK, e_nth0, e_nthS, e_put0, e_putS, e_c, e_op, e_un, e_call, e_nil, e_cons, e_tup, e_lst, e_test, e_asB, e_tru, e_andT, e_orT, e_notT, e_andV, e_orV, e_notV, e_if, e_aug, e_augS, e_sl, e_part, e_partK, e_noPart, e_bm0, e_bm, e_join, e_yes, e_wipe0, e_wipeS, e_lc, e_for, v_add, v_addS, v_addT, v_iadd, v_sub, v_mul, v_fdiv, v_mod, v_pow, v_shl, v_shr, v_neg, v_lt, v_le, v_gt, v_ge, v_eqI, v_neI, v_eqS, v_neS, v_inS, v_ninS, v_inT, v_ninT, v_inR, v_ninR, v_inSeq, v_seqO, v_seqR, v_seqT, v_seqL, v_ixR, v_ixT, v_ixL, v_ixS, v_atK, v_atSK, v_get, v_getL, v_getK, v_set, v_setL, v_setK, v_on1, v_on2, v_lenR, v_lenT, v_lenL, v_lenS, v_seqK, v_tuple, v_list, v_abs, v_intI, v_intB, v_okL, v_isLst, v_app, v_lstK, v_slS, v_slT, v_join, v_is, v_isnot, v_max, v_min, v_iSeq, v_srcT, v_srcL, v_srcS, v_srcR, v_srcO, v_iRg1, v_rg1, v_truN, v_truB, v_truI, v_truS, v_truR, v_truT, v_truRol, v_truL, v_inRol, v_ninRol, v_inO, v_inOd, v_inDic, v_ixO, v_ixOd, v_ixSeq, v_ixDic, v_dgetK, v_ixStr, v_getO, v_getOd, v_setO, v_setOd, v_setDic, v_lenO, v_lenOd, e_dic0, e_disp, e_pairs0, e_pairsS, e_chain, v_bits, v_iRg3, v_rg3, v_iRg2, v_rg2, v_iEn, v_enT, v_enR, v_enO, v_iZp, v_zpT, v_zpR, v_zpO, v_repr, v_strI, v_strS, v_addR, v_and, v_slR, v_slL, v_ltS, v_srtT, v_srtR, v_srtO, v_srtD, v_revR, v_revT, v_isB, v_iZs, v_zsT, e_split, v_split, v_words, v_index, v_eqIS, v_neIS, v_eqB, v_neB])
local macro_rules | `(tactic| walk_at "e0") => `(tactic| try simp only [e_seq, e_brk, e_cnt, e_drop, e_ret, e_retN, e_ifS, e_asg, e_gN, e_gSb, e_gTp, e_gCn, e_gNl, e_var, e_varK, e_nth0, e_nthS, e_put0, e_putS, e_c, e_op, e_un, e_call, e_nil, e_cons, e_tup, e_lst, e_test, e_asB, e_tru, e_andT, e_orT, e_notT, e_andV, e_orV, e_notV, e_if, e_aug, e_augS, e_sl, e_part, e_partK, e_noPart, e_bm0, e_bm, e_join, e_yes, e_wipe0, e_wipeS, e_lc, e_for, v_add, v_addS, v_addT, v_iadd, v_sub, v_mul, v_fdiv, v_mod, v_pow, v_shl, v_shr, v_neg, v_lt, v_le, v_gt, v_ge, v_eqI, v_neI, v_eqS, v_neS, v_inS, v_ninS, v_inT, v_ninT, v_inR, v_ninR, v_inSeq, v_seqO, v_seqR, v_seqT, v_seqL, v_ixR, v_ixT, v_ixL, v_ixS, v_atK, v_atSK, v_get, v_getL, v_getK, v_set, v_setL, v_setK, v_on1, v_on2, v_lenR, v_lenT, v_lenL, v_lenS, v_seqK, v_tuple, v_list, v_abs, v_intI, v_intB, v_okL, v_isLst, v_app, v_lstK, v_slS, v_slT, v_join, v_is, v_isnot, v_max, v_min, v_iSeq, v_srcT, v_srcL, v_srcS, v_srcR, v_srcO, v_iRg1, v_rg1, v_truN, v_truB, v_truI, v_truS, v_truR, v_truT, v_truRol, v_truL, v_inRol, v_ninRol, v_inO, v_inOd, v_inDic, v_ixO, v_ixOd, v_ixSeq, v_ixDic, v_dgetK, v_ixStr, v_getO, v_getOd, v_setO, v_setOd, v_setDic, v_lenO, v_lenOd, e_dic0, e_disp, e_pairs0, e_pairsS, e_chain, v_bits, v_iRg3, v_rg3, v_iRg2, v_rg2, v_iEn, v_enT, v_enR, v_enO, v_iZp, v_zpT, v_zpR, v_zpO, v_repr, v_strI, v_strS, v_addR, v_and, v_slR, v_slL, v_ltS, v_srtT, v_srtR, v_srtO, v_srtD, v_revR, v_revT, v_isB, v_iZs, v_zsT, v_eqIS, v_neIS, v_eqB, v_neB])
section
/-! the law's reader: its small defs -/
def cM (wp : Addr) (i : Nat) (b : Bool) (zc : Nat) : MO := .lst [.ref wp, .int i, .bool b, .int zc]
structure RS (h : MH) (c wp : Addr) (T : List Str) (i : Nat) (b : Bool) (zc : Nat) : Prop where
  at_ : h c = some (cM wp i b zc)
  ws : h wp = some (.lst (T.map D.str))
  ne : wp ≠ c
theorem RS.up {h : MH} {c wp : Addr} {T : List Str} {i : Nat} {b : Bool} {zc : Nat} (R : RS h c wp T i b zc) (j : Nat) (k : Bool) (y : Nat) : RS (up h c (cM wp j k y)) c wp T j k y := ⟨up_same, by rw [up_ne R.ne]; exact R.ws, R.ne⟩
theorem RS.le {h h2 : MH} {c wp : Addr} {T : List Str} {i : Nat} {b : Bool} {zc : Nat} (R : RS h c wp T i b zc) (l : le h h2) : RS h2 c wp T i b zc := ⟨l _ _ R.at_, l _ _ R.ws, R.ne⟩
theorem see_drop (T : List Str) (i : Nat) : seeT (T.drop i) = if h : i < T.length then T[i] else tk "" := by
  by_cases h : i < T.length
  · rw [dif_pos h, List.drop_eq_getElem_cons h]
    rfl
  · rw [dif_neg h, List.drop_eq_nil_of_le (by omega)]
    rfl
theorem tail_drop (T : List Str) (i : Nat) : (T.drop i).tail = T.drop (i + 1) := by rw [List.tail_drop]
def sp__law_reserved : P1 := fun ds h Q => ds = [] ∧ ∀ p, h p = none → Q (.ref p) (up h p (.lst (resL.map D.str)))
theorem len__law_reserved : ∀ ds h Q, sp__law_reserved ds h Q → ds.length = 0 := fun ds h Q ⟨e, _⟩ => by rw [e]; rfl
theorem sat__law_reserved : ∀ ds h Q, sp__law_reserved ds h Q → rd__law_reserved (endN Q) (startD 1 ds) h := by
  rintro ds h Q ⟨rfl, q⟩
  show rd__law_reserved (endN Q) [none] h
  unfold rd__law_reserved
  rw [e_seq, e_asg, e_c, e_gN, e_put0]
  show rd__law_reserved_1 (endN Q) [some (D.str (Str.ofString "asker group thing badge tag number flag asked action duty tie never walk when role gate let bar on from to "))] h
  unfold rd__law_reserved_1
  rw [e_ret, e_split, e_op, e_var, show nth [some (D.str (Str.ofString "asker group thing badge tag number flag asked action duty tie never walk when role gate let bar on from to "))] 0 = some (D.str (Str.ofString "asker group thing badge tag number flag asked action duty tie never walk when role gate let bar on from to ")) from rfl, e_varK, e_c, v_addS]
  refine ⟨by decide +kernel, ⟨_, rfl⟩, ?_⟩
  rw [e_c, v_split]
  refine ⟨by decide +kernel, by decide +kernel, ?_⟩
  have e : Txt.split (Str.ofString "asker group thing badge tag number flag asked action duty tie never walk when role gate let bar on from to " ++ Str.ofString "by is may rank due and or not always now ask any table final node rule") (Str.ofString " ") = resL := by decide +kernel
  rw [e]
  exact ⟨by decide +kernel, fun p n => lh_of (q p n)⟩
def sp__law_see : P1 := fun ds h Q => ∃ c wp T i b zc, ds = [.ref c] ∧ RS h c wp T i b zc ∧ Q (.str (seeT (T.drop i))) h
theorem len__law_see : ∀ ds h Q, sp__law_see ds h Q → ds.length = 1 := fun ds h Q ⟨_, _, _, _, _, _, e, _⟩ => by rw [e]; rfl
theorem sat__law_see : ∀ ds h Q, sp__law_see ds h Q → rd__law_see (endN Q) (startD 1 ds) h := by
  rintro ds h Q ⟨c, wp, T, i, b, zc, rfl, R, q⟩
  show rd__law_see (endN Q) [some (.ref c)] h
  have ec : h c = some (.lst [.ref wp, .int i, .bool b, .int zc]) := R.at_
  have ew := R.ws
  unfold rd__law_see
  walk_at "ev"
  simp only [ec, ew, atI_z, atI_1, v_ixR, v_ixO, v_ixSeq, v_atK, v_lenR, v_lenO, v_lt, e_asB, decide_eq_true_eq, List.length_map]
  rw [see_drop] at q
  split
  · rename_i h1
    have h1 : i < T.length := by omega
    rw [dif_pos h1] at q
    have e : (T.map D.str)[i]? = some (.str T[i]) := by rw [List.getElem?_map, List.getElem?_eq_getElem h1]; rfl
    rw [atI_of rfl e]
    exact lh_of q
  · rename_i h1
    rw [dif_neg (by omega)] at q
    exact lh_of q
def sp__law_good_name : P1 := fun ds h Q => ∃ s, ds = [.str s] ∧ Q (.bool (gdN s)) h
theorem len__law_good_name : ∀ ds h Q, sp__law_good_name ds h Q → ds.length = 1 := fun ds h Q ⟨_, e, _⟩ => by rw [e]; rfl
theorem any_res (zs : List Str) (s : Str) : ((zs.map D.str).any fun z => eqF z (.str s)) = zs.any fun z => decide (z = s) := by
  rw [List.any_map]
  congr 1
theorem pure_res : ∀ zs : List Str, pures? 60 (zs.map D.str) = true
  | [] => by simp [pures?]
  | z :: zs => by
    have := pure_res zs
    rw [List.map_cons]
    simp [pures?, pure?, this]
theorem gname_2 {Q : KD} {h : MH} {s : Str} {y : Option D} (hl : s.length ≤ 8) (q : Lh Q (.bool (s.cps.toList.all fun c => inS ⟨#[c]⟩ abnS)) h) : rd__law_good_name_2 sp__law_reserved (endN Q) [some (.str s), y] h := by
  unfold rd__law_good_name_2
  walk_at "e0"
  have hl2 : s.cps.toList.length ≤ 8 := by rw [Array.length_toList]; exact hl
  refine lcT_t s.cps.toList (fun c => .str ⟨#[c]⟩) (fun c => .bool (inS ⟨#[c]⟩ abnS)) rfl (Nat.le_of_lt (sl_lt (by omega))) trivial (fun c hc Q' hQ => ?_) fun l nl => ?_
  · walk_at "e0"
    exact hQ h le.refl
  · have e : (s.cps.toList.map fun c => D.bool (inS ⟨#[c]⟩ abnS)) = (s.cps.toList.map fun c => inS ⟨#[c]⟩ abnS).map D.bool := by rw [List.map_map]; rfl
    rw [e]
    refine all_bools ?_
    rw [List.all_map]
    obtain ⟨h2, l2, q2⟩ := q
    exact ⟨h2, l2.trans (le.up nl), q2⟩
theorem gname_1 {Q : KD} {h : MH} {s : Str} {y : Option D} (h1 : 1 ≤ s.length) (hl : s.length ≤ 8) (q : Lh Q (.bool ((match s.cps.toList[0]? with
  | some c => inS ⟨#[c]⟩ abcS
  | none => false) && s.cps.toList.all fun c => inS ⟨#[c]⟩ abnS)) h) : rd__law_good_name_1 sp__law_reserved (endN Q) [some (.str s), y] h := by
  have l1 : s.cps.toList.length = s.length := Array.length_toList
  obtain ⟨c, r, e⟩ : ∃ c r, s.cps.toList = c :: r := by
    cases e : s.cps.toList with
    | nil => rw [e] at l1; simp at l1; omega
    | cons c r => exact ⟨c, r, rfl⟩
  have e0 : s.cps.toList[0]? = some c := by rw [e]; rfl
  rw [e0] at q
  simp only at q
  unfold rd__law_good_name_1
  walk_at "e0"
  rw [atI_of (show (0 : Int) = ((0 : Nat) : Int) from rfl) e0]
  walk_at "e0"
  have q : Lh Q (.bool (inS ⟨#[c]⟩ (Str.ofString "abcdefghijklmnopqrstuvwxyz") && s.cps.toList.all fun c => inS ⟨#[c]⟩ abnS)) h := q
  cases k1 : inS ⟨#[c]⟩ (Str.ofString "abcdefghijklmnopqrstuvwxyz") with
  | false =>
    rw [k1, Bool.false_and] at q
    rw [if_pos (by decide)]
    exact q
  | true =>
    rw [k1, Bool.true_and] at q
    rw [if_neg (by decide), e_next]
    exact gname_2 hl q
theorem sat__law_good_name : ∀ ds h Q, sp__law_good_name ds h Q → rd__law_good_name sp__law_reserved (endN Q) (startD 2 ds) h := by
  rintro ds h Q ⟨s, rfl, q⟩
  show rd__law_good_name sp__law_reserved (endN Q) [some (.str s), none] h
  unfold rd__law_good_name
  walk_at "e0"
  rw [isi_eval (t := "str") (n := "str") (b := true) rfl (by decide)]
  walk_at "e0"
  rw [if_neg (by decide)]
  unfold gdN at q
  by_cases h1 : 1 ≤ s.length
  · rw [decide_eq_true h1, Bool.true_and] at q
    rw [if_pos (by simp; omega)]
    by_cases h2 : s.length ≤ 8
    · rw [decide_eq_true h2, Bool.true_and] at q
      rw [if_neg (by simp; omega)]
      by_cases k2 : cutS s none (some 2) = Str.ofString "zz"
      · rw [decide_eq_true k2] at q ⊢
        rw [if_pos rfl]
        exact lh_of q
      · rw [decide_eq_false k2, Bool.not_false, Bool.true_and] at q
        rw [decide_eq_false k2, if_neg (by decide)]
        refine ⟨rfl, fun p n => ?_⟩
        walk_at "e0"
        rw [up_same]
        refine ⟨by simp [pure?], pure_res _, ?_⟩
        rw [any_res]
        cases k3 : resL.any fun z => decide (z = s) with
        | true =>
          rw [k3] at q
          rw [if_pos rfl]
          exact ⟨h, le.up n, q⟩
        | false =>
          rw [k3, Bool.not_false, Bool.true_and] at q
          rw [if_neg (by decide), e_next]
          exact gname_1 h1 h2 ⟨h, le.up n, q⟩
    · rw [decide_eq_false h2, Bool.false_and] at q
      rw [if_pos (by simp; omega)]
      exact lh_of q
  · rw [decide_eq_false h1, Bool.false_and] at q
    rw [if_neg (by simp; omega), if_pos (by decide)]
    exact lh_of q
def sp__law_take : P1 := fun ds h Q => ∃ c wp T i b zc z, ds = [.ref c, .str z] ∧ RS h c wp T i b zc ∧ Q .none (up h c (if b = false ∧ seeT (T.drop i) = z then cM wp (i + 1) false zc else cM wp i true zc))
theorem len__law_take : ∀ ds h Q, sp__law_take ds h Q → ds.length = 2 := fun ds h Q ⟨_, _, _, _, _, _, _, e, _⟩ => by rw [e]; rfl
theorem sat__law_take : ∀ ds h Q, sp__law_take ds h Q → rd__law_take sp__law_see (endN Q) (startD 2 ds) h := by
  rintro ds h Q ⟨c, wp, T, i, b, zc, z, rfl, R, q⟩
  show rd__law_take sp__law_see (endN Q) [some (.ref c), some (.str z)] h
  have ec : h c = some (.lst [.ref wp, .int i, .bool b, .int zc]) := R.at_
  unfold rd__law_take
  walk_at "ev"
  simp only [ec, atI_2, v_ixR, v_ixO, v_ixSeq, v_atK, v_truB]
  have no : ¬ (b = false ∧ seeT (T.drop i) = z) → Lh Q .none (up h c (cM wp i true zc)) := fun k => by rw [if_neg k] at q; exact lh_of q
  have wr : Lh Q .none (up h c (cM wp i true zc)) → Lh Q D.none (up h c (.lst [.ref wp, .int i, .bool true, .int zc])) := id
  cases b with
  | true =>
    rw [if_neg (by decide)]
    simp only [ec, v_setO, v_setL, List.length_cons, List.length_nil, Nat.reduceAdd, show ixN 4 2 = some 2 from by decide, v_setK, List.set_cons_succ, List.set_cons_zero]
    exact wr (no (by simp))
  | false =>
    rw [if_pos (by decide)]
    refine ⟨c, wp, T, i, false, zc, rfl, R, ?_⟩
    walk_at "ev"
    by_cases k : seeT (T.drop i) = z
    · rw [if_pos (by simp [k])]
      simp only [ec, atI_1, v_ixR, v_ixO, v_ixSeq, v_atK, v_add, v_setO, v_setL, List.length_cons, List.length_nil, Nat.reduceAdd, show ixN 4 1 = some 1 from by decide, v_setK, List.set_cons_succ, List.set_cons_zero]
      rw [if_pos ⟨rfl, k⟩] at q
      exact lh_of q
    · rw [if_neg (by simp [k])]
      simp only [ec, v_setO, v_setL, List.length_cons, List.length_nil, Nat.reduceAdd, show ixN 4 2 = some 2 from by decide, v_setK, List.set_cons_succ, List.set_cons_zero]
      exact wr (no (by simp [k]))
def sp__law_take_name : P1 := fun ds h Q => ∃ c wp T i b zc, ds = [.ref c] ∧ RS h c wp T i b zc ∧ (if b = true then Q (.str (tk "")) (up h c (cM wp i true zc)) else match takeN (T.drop i) with
  | some p => Q (.str p.1) (up h c (cM wp (i + 1) false zc))
  | none => Q (.str (tk "")) (up h c (cM wp i true zc)))
theorem len__law_take_name : ∀ ds h Q, sp__law_take_name ds h Q → ds.length = 1 := fun ds h Q ⟨_, _, _, _, _, _, e, _⟩ => by rw [e]; rfl
theorem takeN_see (r : List Str) : takeN r = if gdN (seeT r) = true then some (seeT r, r.tail) else none := by
  cases r with
  | nil => rw [if_neg (by decide +kernel)]; rfl
  | cons z r => rfl
theorem sat__law_take_name : ∀ ds h Q, sp__law_take_name ds h Q → rd__law_take_name sp__law_see sp__law_good_name (endN Q) (startD 2 ds) h := by
  rintro ds h Q ⟨c, wp, T, i, b, zc, rfl, R, q⟩
  show rd__law_take_name sp__law_see sp__law_good_name (endN Q) [some (.ref c), none] h
  have ec : h c = some (.lst [.ref wp, .int i, .bool b, .int zc]) := R.at_
  unfold rd__law_take_name
  walk_at "ev"
  refine ⟨c, wp, T, i, b, zc, rfl, R, ?_⟩
  unfold rd__law_take_name_1
  walk_at "ev"
  simp only [ec, atI_2, v_ixR, v_ixO, v_ixSeq, v_atK, v_truB]
  cases b with
  | true =>
    rw [if_pos rfl] at q
    rw [if_pos rfl, if_pos trivial]
    simp only [ec, v_setO, v_setL, List.length_cons, List.length_nil, Nat.reduceAdd, show ixN 4 2 = some 2 from by decide, v_setK, List.set_cons_succ, List.set_cons_zero]
    exact lh_of q
  | false =>
  rw [if_neg (by decide)] at q
  rw [if_neg (by decide)]
  refine ⟨_, rfl, ?_⟩
  rw [takeN_see] at q
  by_cases g : gdN (seeT (T.drop i)) = true
  · rw [if_pos g] at q
    rw [g, v_truB, if_neg (by decide)]
    unfold rd__law_take_name_2
    walk_at "ev"
    simp only [ec, atI_1, v_ixR, v_ixO, v_ixSeq, v_atK, v_add, v_setO, v_setL, List.length_cons, List.length_nil, Nat.reduceAdd, show ixN 4 1 = some 1 from by decide, v_setK, List.set_cons_succ, List.set_cons_zero]
    unfold rd__law_take_name_3
    walk_at "ev"
    exact lh_of q
  · rw [if_neg g] at q
    rw [show gdN (seeT (T.drop i)) = false from by simpa using g, v_truB, if_pos (by decide)]
    simp only [ec, v_setO, v_setL, List.length_cons, List.length_nil, Nat.reduceAdd, show ixN 4 2 = some 2 from by decide, v_setK, List.set_cons_succ, List.set_cons_zero]
    exact lh_of q
end
section
/-! numbers, sides -/
theorem str_ext {s t : Str} (h : s.cps.toList = t.cps.toList) : s = t := by
  obtain ⟨a⟩ := s
  obtain ⟨b⟩ := t
  exact congrArg Str.mk (Array.toList_inj.mp h)
theorem dv_lt : ∀ (l : List Nat) (acc : Nat), (∀ c ∈ l, 48 ≤ c ∧ c ≤ 57) → l.foldl (fun acc c => acc * 10 + (c - 48)) acc < (acc + 1) * 10 ^ l.length
  | [], acc, _ => by simp
  | c :: l, acc, h => by
    have hc := h c (by simp)
    have ih := dv_lt l (acc * 10 + (c - 48)) fun x hx => h x (by simp [hx])
    rw [List.foldl_cons, List.length_cons, Nat.pow_succ]
    refine Nat.lt_of_lt_of_le ih ?_
    have : (acc * 10 + (c - 48) + 1) ≤ (acc + 1) * 10 := by omega
    calc (acc * 10 + (c - 48) + 1) * 10 ^ l.length ≤ ((acc + 1) * 10) * 10 ^ l.length := Nat.mul_le_mul_right _ this
      _ = (acc + 1) * (10 ^ l.length * 10) := by rw [Nat.mul_assoc, Nat.mul_comm 10]
def digS : Str := Str.ofString "0123456789"
theorem dig_mem {c : Nat} : c ∈ digS.cps.toList ↔ 48 ≤ c ∧ c ≤ 57 := by
  have e : digS.cps.toList = [48, 49, 50, 51, 52, 53, 54, 55, 56, 57] := by decide +kernel
  rw [e]
  simp only [List.mem_cons, List.not_mem_nil, or_false]
  omega
theorem digB_iff {c : Nat} : digB c = true ↔ 48 ≤ c ∧ c ≤ 57 := by
  unfold digB
  rw [Bool.and_eq_true, decide_eq_true_eq, decide_eq_true_eq]
def sp__law_take_number : P1 := fun ds h Q => ∃ c wp T i zc, ds = [.ref c, .int 0, .int 9999] ∧ RS h c wp T i false zc ∧ (match numOk (seeT (T.drop i)) with
  | some k => Q (.int k) (up h c (cM wp (i + 1) false zc))
  | none => Q (.int 0) (up h c (cM wp i true zc)))
theorem len__law_take_number : ∀ ds h Q, sp__law_take_number ds h Q → ds.length = 3 := fun ds h Q ⟨_, _, _, _, _, e, _⟩ => by rw [e]; rfl
section
variable {Q : KD} {h : MH} {c wp : Addr} {T : List Str} {i zc : Nat} {s : Str} {b : Bool} {y : Option D}
theorem tnum_3 (R : RS h c wp T i false zc) {n : Int} (hn : PySem.intText? s = some n) (hl : s.length ≤ 4) (q : Lh Q (.int n) (up h c (cM wp (i + 1) false zc))) : rd__law_take_number_3 sp__law_see (endN Q) [some (.ref c), some (.int 0), some (.int 9999), some (.str s), some (.bool b), y] h := by
  have ec : h c = some (.lst [.ref wp, .int i, .bool false, .int zc]) := R.at_
  unfold rd__law_take_number_3
  walk_at "ev"
  simp only [ec, atI_1, v_ixR, v_ixO, v_ixSeq, v_atK, v_add, v_setO, v_setL, List.length_cons, List.length_nil, Nat.reduceAdd, show ixN 4 1 = some 1 from by decide, v_setK, List.set_cons_succ, List.set_cons_zero]
  unfold rd__law_take_number_4
  walk_at "ev"
  exact ⟨n, hn, by omega, q⟩
theorem tnum_bad (R : RS h c wp T i false zc) (q : Lh Q (.int 0) (up h c (cM wp i true zc))) : rd__law_take_number_2 sp__law_see (endN Q) [some (.ref c), some (.int 0), some (.int 9999), some (.str s), some (.bool false), y] h := by
  have ec : h c = some (.lst [.ref wp, .int i, .bool false, .int zc]) := R.at_
  unfold rd__law_take_number_2
  walk_at "e0"
  simp only [ec, atI_2, v_ixR, v_ixO, v_ixSeq, v_atK, v_truB, v_setO, v_setL, List.length_cons, List.length_nil, Nat.reduceAdd, show ixN 4 2 = some 2 from by decide, v_setK, List.set_cons_succ, List.set_cons_zero]
  exact q
theorem tnum_good (R : RS h c wp T i false zc) {n : Int} (hn : PySem.intText? s = some n) (hl : s.length ≤ 4) (n0 : 0 ≤ n) (n9 : n ≤ 9999) (q : Lh Q (.int n) (up h c (cM wp (i + 1) false zc))) : rd__law_take_number_2 sp__law_see (endN Q) [some (.ref c), some (.int 0), some (.int 9999), some (.str s), some (.bool true), y] h := by
  have ec : h c = some (.lst [.ref wp, .int i, .bool false, .int zc]) := R.at_
  unfold rd__law_take_number_2
  walk_at "e0"
  simp only [ec, atI_2, v_ixR, v_ixO, v_ixSeq, v_atK, v_truB]
  rw [if_neg (by decide), if_neg (by decide)]
  refine ⟨n, hn, by omega, ?_⟩
  walk_at "e0"
  rw [decide_eq_true n0, if_pos rfl]
  rw [decide_eq_true n9, if_neg (by decide), e_next]
  exact tnum_3 R hn hl q
end
theorem le_upB {h h2 : MH} {c : Addr} {o x : MO} (l : DL.le h h2) (e : h c = some o) : DL.le (up h c x) (up h2 c x) := fun a u q => by
  by_cases z : a = c
  · subst z; rw [up_same] at q ⊢; exact q
  · rw [up_ne z] at q ⊢; exact l a u q
theorem sat__law_take_number : ∀ ds h Q, sp__law_take_number ds h Q → rd__law_take_number sp__law_see (endN Q) (startD 6 ds) h := by
  rintro ds h Q ⟨c, wp, T, i, zc, rfl, R, q⟩
  show rd__law_take_number sp__law_see (endN Q) [some (.ref c), some (.int 0), some (.int 9999), none, none, none] h
  have ec : h c = some (.lst [.ref wp, .int i, .bool false, .int zc]) := R.at_
  unfold rd__law_take_number
  walk_at "ev"
  refine ⟨c, wp, T, i, false, zc, rfl, R, ?_⟩
  generalize seeT (T.drop i) = s at q ⊢
  unfold rd__law_take_number_1
  walk_at "e0"
  have l1 : s.cps.toList.length = s.length := Array.length_toList
  have bad : (∀ h2, DL.le h h2 → ¬ ((1 ≤ s.length ∧ s.length ≤ 4) ∧ s.cps.toList.all digB = true ∧ (s = tk "0" ∨ s.cps.toList.head? ≠ some 48)) → rd__law_take_number_2 sp__law_see (endN Q) [some (.ref c), some (.int 0), some (.int 9999), some (.str s), some (.bool false), none] h2) := fun h2 l e => by
    rw [show numOk s = none from if_neg e] at q
    exact tnum_bad (R.le l) ⟨_, le_upB l R.at_, q⟩
  by_cases h1 : 1 ≤ s.length
  · rw [if_pos (by simp; omega)]
    by_cases h4 : s.length ≤ 4
    · rw [if_pos (by simp; omega)]
      refine lcT_t s.cps.toList (fun c => .str ⟨#[c]⟩) (fun c => .bool (inS ⟨#[c]⟩ digS)) rfl (Nat.le_of_lt (sl_lt (by omega))) trivial (fun c hc Q' hQ => ?_) fun l nl => ?_
      · walk_at "e0"
        exact hQ h le.refl
      · have e : (s.cps.toList.map fun c => D.bool (inS ⟨#[c]⟩ digS)) = (s.cps.toList.map fun c => inS ⟨#[c]⟩ digS).map D.bool := by rw [List.map_map]; rfl
        rw [e]
        refine all_bools ?_
        rw [List.all_map, e_asB]
        have lu := le.up (o := MO.lst ((s.cps.toList.map fun c => inS ⟨#[c]⟩ digS).map D.bool)) nl
        generalize up h l (MO.lst ((s.cps.toList.map fun c => inS ⟨#[c]⟩ digS).map D.bool)) = h2 at lu ⊢
        have same : (s.cps.toList.all (id ∘ fun c => inS ⟨#[c]⟩ digS) = true) ↔ s.cps.toList.all digB = true := by
          rw [List.all_eq_true, List.all_eq_true]
          refine forall_congr' fun x => forall_congr' fun hx => ?_
          show inS ⟨#[x]⟩ digS = true ↔ _
          rw [inS_one, decide_eq_true_eq, dig_mem, digB_iff]
        by_cases ad : s.cps.toList.all (id ∘ fun c => inS ⟨#[c]⟩ digS) = true
        · rw [if_pos ad]
          have ad1 := same.mp ad
          have ad2 : ∀ x ∈ s.cps.toList, 48 ≤ x ∧ x ≤ 57 := fun x hx => digB_iff.mp (List.all_eq_true.mp ad1 x hx)
          obtain ⟨d, r, es⟩ : ∃ d r, s.cps.toList = d :: r := by
            cases e : s.cps.toList with
            | nil => rw [e] at l1; simp at l1; omega
            | cons d r => exact ⟨d, r, rfl⟩
          have it := PySem.intText_digits (x := s) ad2 (by rw [es]; simp) (by omega)
          have lt := dv_lt s.cps.toList 0 ad2
          have p4 : 10 ^ s.cps.toList.length ≤ 10 ^ 4 := Nat.pow_le_pow_right (by decide) (by omega)
          have good : (s = tk "0" ∨ s.cps.toList.head? ≠ some 48) → rd__law_take_number_2 sp__law_see (endN Q) [some (.ref c), some (.int 0), some (.int 9999), some (.str s), some (.bool true), none] h2 := fun z => by
            rw [show numOk s = some (PySem.NumText.digitsVal s.cps.toList) from if_pos ⟨⟨h1, h4⟩, ad1, z⟩] at q
            refine tnum_good (R.le lu) it h4 (by omega) ?_ ⟨_, le_upB lu R.at_, q⟩
            have : PySem.NumText.digitsVal s.cps.toList < (0 + 1) * 10 ^ s.cps.toList.length := lt
            have : 10 ^ 4 = 10000 := by decide
            omega
          by_cases z : s = Str.ofString "0"
          · rw [decide_eq_true z, if_pos rfl]
            exact good (.inl z)
          · rw [decide_eq_false z, if_neg (by decide)]
            rw [atI_of (show (0 : Int) = ((0 : Nat) : Int) from rfl) (show s.cps.toList[0]? = some d by rw [es]; rfl)]
            walk_at "e0"
            by_cases d0 : d = 48
            · rw [decide_eq_true (show (⟨#[d]⟩ : Str) = Str.ofString "0" by rw [d0]; decide +kernel)]
              refine bad h2 lu fun ⟨_, _, w⟩ => ?_
              rcases w with w | w
              · exact z w
              · rw [es, d0] at w; exact w rfl
            · have ne : (⟨#[d]⟩ : Str) ≠ Str.ofString "0" := fun w => d0 (by
                have this : [d] = (Str.ofString "0").cps.toList := by rw [← w]
                rw [show (Str.ofString "0").cps.toList = [48] from by decide +kernel] at this
                cases this
                rfl)
              rw [decide_eq_false ne]
              refine good (.inr ?_)
              rw [es]
              simpa using d0
        · rw [if_neg ad]
          exact bad h2 lu fun w => ad (same.mpr w.2.1)
    · rw [if_neg (by simp; omega)]
      exact bad h le.refl fun w => h4 w.1.2
  · rw [if_neg (by simp; omega), if_neg (by decide)]
    exact bad h le.refl fun w => h1 w.1.1
def opS (o : Bool) : Str := if o = true then Str.ofString "and" else Str.ofString "or"
def cdD : Cd → D
  | .always => .tup [.str (Str.ofString "always")]
  | .named n => .tup [.str (Str.ofString "named"), .str n]
  | .flag n => .tup [.str (Str.ofString "flag"), .str n]
  | .tag k n => .tup [.str (Str.ofString "tag"), .str (frT k), .str n]
  | .walk n m => .tup [.str (Str.ofString "walk"), .str n, .str m]
  | .atm l r g => .tup [.str (Str.ofString "atmost"), .str (sdS l), .str (sdS r), .int g]
  | .nt c => .tup [.str (Str.ofString "not"), cdD c]
  | .bin o a b => .tup [.str (opS o), cdD a, cdD b]
/-- what a reading def leaves: a value, where it stands and how many zeros more, or bad -/
def Left (c wp : Addr) (T : List Str) (zc : Nat) (Q : KD) (h : MH) : Option (D × List Str × Nat) → Prop
  | some p => ∀ j, j ≤ T.length → T.drop j = p.2.1 → Q p.1 (up h c (cM wp j false (zc + p.2.2)))
  | none => ∀ (j y : Nat) (d : D), Q d (up h c (cM wp j true y))
/-- a side: a text even if bad -/
def LeftS (c wp : Addr) (T : List Str) (zc : Nat) (Q : KD) (h : MH) : Option (Sd × List Str) → Prop
  | some p => ∀ j, j ≤ T.length → T.drop j = p.2 → Q (.str (sdS p.1)) (up h c (cM wp j false zc))
  | none => ∀ (j : Nat) (s : Str), s.length ≤ 100 → Q (.str s) (up h c (cM wp j true zc))
theorem lt_of_see {T : List Str} {i : Nat} {z : Str} (h : seeT (T.drop i) = z) (n : z ≠ tk "") : i < T.length := by
  rw [see_drop] at h
  split at h
  · assumption
  · exact (n h.symm).elim
theorem takeN_drop {T : List Str} {i : Nat} {p : Str × List Str} (h : takeN (T.drop i) = some p) : i < T.length ∧ p.1 = seeT (T.drop i) ∧ gdN p.1 = true ∧ p.2 = T.drop (i + 1) := by
  rw [takeN_see] at h
  split at h
  · rename_i g
    cases h
    refine ⟨lt_of_see rfl fun e => ?_, rfl, g, tail_drop T i⟩
    rw [e, ng_e] at g
    cases g
  · cases h
theorem in_txt {zs : List Str} {s : Str} {k : Bool → Prop} (q : k (zs.any fun z => decide (z = s))) : inSeq (.str s) k (zs.map D.str) := ⟨by simp [pure?], pure_res _, by rw [any_res]; exact q⟩
theorem gd_len {s : Str} (g : gdN s = true) : s.length ≤ 8 := by
  unfold gdN at g
  simp only [Bool.and_eq_true, decide_eq_true_eq] at g
  exact g.2.1
theorem rs_at {h : MH} {c wp : Addr} {T : List Str} {i : Nat} {b : Bool} {zc : Nat} (R : RS h c wp T i b zc) : h c = some (.lst [.ref wp, .int i, .bool b, .int zc]) := R.at_
/-- a side is also asked for when all is bad -/
def sp__law_take_side : P1 := fun ds h Q => ∃ c wp T i b zc, ds = [.ref c] ∧ RS h c wp T i b zc ∧ (if b = true then ∀ (j : Nat) (s : Str), s.length ≤ 100 → Q (.str s) (up h c (cM wp j true zc)) else LeftS c wp T zc Q h (takeSd (T.drop i)))
theorem len__law_take_side : ∀ ds h Q, sp__law_take_side ds h Q → ds.length = 1 := fun ds h Q ⟨_, _, _, _, _, _, e, _⟩ => by rw [e]; rfl
theorem see_take (T : List Str) (i : Nat) : seeT (T.drop i).tail = seeT (T.drop (i + 1)) := by rw [tail_drop]
theorem or_any2 (a b s : Str) : ([a, b].any fun z => decide (z = s)) = true ↔ s = a ∨ s = b := by
  simp only [List.any_cons, List.any_nil, Bool.or_false, Bool.or_eq_true, decide_eq_true_eq]
  exact ⟨fun h => h.elim (fun e => .inl e.symm) (fun e => .inr e.symm), fun h => h.elim (fun e => .inl e.symm) (fun e => .inr e.symm)⟩
theorem or_any3 (a b c s : Str) : ([a, b, c].any fun z => decide (z = s)) = true ↔ s = a ∨ s = b ∨ s = c := by
  simp only [List.any_cons, List.any_nil, Bool.or_false, Bool.or_eq_true, decide_eq_true_eq]
  exact ⟨fun h => h.elim (fun e => .inl e.symm) (fun h => .inr (h.elim (fun e => .inl e.symm) (fun e => .inr e.symm))), fun h => h.elim (fun e => .inl e.symm) (fun h => .inr (h.elim (fun e => .inl e.symm) (fun e => .inr e.symm)))⟩
theorem frN_iff (s : Str) : (frN s).isSome = true ↔ s = tk "asker" ∨ s = tk "thing" ∨ s = tk "ask" := by
  unfold frN
  by_cases a : s = tk "asker"
  · rw [if_pos a]; exact ⟨fun _ => .inl a, fun _ => rfl⟩
  rw [if_neg a]
  by_cases b : s = tk "thing"
  · rw [if_pos b]; exact ⟨fun _ => .inr (.inl b), fun _ => rfl⟩
  rw [if_neg b]
  by_cases c : s = tk "ask"
  · rw [if_pos c]; exact ⟨fun _ => .inr (.inr c), fun _ => rfl⟩
  rw [if_neg c]
  exact ⟨fun h => (by cases h), fun h => (h.elim a fun h => h.elim b c).elim⟩
theorem frN_T {s : Str} {k : Nat} (h : frN s = some k) : s = frT k ∧ k < 3 := by
  unfold frN at h
  split at h
  · rename_i e; cases h; exact ⟨e, by decide⟩
  split at h
  · rename_i e; cases h; exact ⟨e, by decide⟩
  split at h
  · rename_i e; cases h; exact ⟨e, by decide⟩
  · cases h
theorem fr_len {k : Nat} (h : k < 3) : (frT k).length ≤ 5 := by
  rcases (show k = 0 ∨ k = 1 ∨ k = 2 by omega) with rfl | rfl | rfl <;> decide +kernel
/-- behind the two tests: bad -/
theorem side_3 {Q : KD} {h hh : MH} {c wp : Addr} {T : List Str} {i zc : Nat} {b : Bool} {x : Option D} (R : RS hh c wp T i b zc) (q : Lh Q (.str (tk "")) (up hh c (cM wp i true zc))) : rd__law_take_side_3 sp__law_see sp__law_take sp__law_take_name (endN Q) [some (.ref c), x] hh := by
  unfold rd__law_take_side_3
  walk_at "e0"
  rw [rs_at R]
  walk_at "e0"
  simp only [List.length_cons, List.length_nil, Nat.reduceAdd, show ixN 4 2 = some 2 from by decide, v_setK, List.set_cons_succ, List.set_cons_zero]
  unfold rd__law_take_side_4
  walk_at "e0"
  exact q
theorem sat__law_take_side : ∀ ds h Q, sp__law_take_side ds h Q → rd__law_take_side sp__law_see sp__law_take sp__law_take_name (endN Q) (startD 2 ds) h := by
  rintro ds h Q ⟨c, wp, T, i, b, zc, rfl, R, q⟩
  show rd__law_take_side sp__law_see sp__law_take sp__law_take_name (endN Q) [some (.ref c), none] h
  unfold rd__law_take_side
  walk_at "e0"
  refine ⟨c, wp, T, i, b, zc, rfl, R, ?_⟩
  unfold rd__law_take_side_1
  walk_at "e0"
  rw [rs_at R]
  walk_at "e0"
  rw [atI_2]
  walk_at "e0"
  cases b with
  | true =>
    rw [if_pos rfl] at q
    rw [if_neg (by decide), if_neg (by decide), e_next]
    unfold rd__law_take_side_2
    walk_at "e0"
    rw [rs_at R]
    walk_at "e0"
    rw [atI_2]
    walk_at "e0"
    rw [if_neg (by decide), if_neg (by decide), e_next]
    exact side_3 (h := h) R (lh_of (q i (tk "") (by decide +kernel)))
  | false =>
    rw [if_neg (by decide)] at q
    rw [if_pos (by decide)]
    refine ⟨by show 2 ≤ sizeLine; decide, fun p np => ?_⟩
    have l1 := le.up (o := MO.lst [.str (Str.ofString "now"), .str (Str.ofString "0")]) np
    rw [up_same, v_inO]
    generalize up h p (MO.lst [.str (Str.ofString "now"), .str (Str.ofString "0")]) = h1 at l1 ⊢
    have R1 := R.le l1
    refine in_txt (zs := [Str.ofString "now", Str.ofString "0"]) ?_
    unfold takeSd at q
    by_cases hit : seeT (T.drop i) = tk "now" ∨ seeT (T.drop i) = tk "0"
    · rw [if_pos ((or_any2 (Str.ofString "now") (Str.ofString "0") _).mpr hit)]
      rw [rs_at R1]
      walk_at "e0"
      rw [atI_1]
      walk_at "e0"
      rw [rs_at R1]
      walk_at "e0"
      simp only [List.length_cons, List.length_nil, Nat.reduceAdd, show ixN 4 1 = some 1 from by decide, v_setK, List.set_cons_succ, List.set_cons_zero]
      have fin : ∀ s : Sd, sdS s = seeT (T.drop i) → LeftS c wp T zc Q h (some (s, (T.drop i).tail)) → Lh Q (.str (seeT (T.drop i))) (up h1 c (cM wp (i + 1) false zc)) := fun s es q => by
        rw [← es]
        have hi : i < T.length := by
          rcases hit with e | e
          · exact lt_of_see e (by decide +kernel)
          · exact lt_of_see e (by decide +kernel)
        exact ⟨_, le_upB l1 R.at_, q (i + 1) hi (tail_drop T i).symm⟩
      rcases hit with e | e
      · rw [if_pos e] at q
        exact fin (.wd true) e.symm q
      · rw [if_neg (by rw [e]; decide +kernel), if_pos e] at q
        exact fin (.wd false) e.symm q
    · rw [if_neg fun w => hit ((or_any2 (Str.ofString "now") (Str.ofString "0") _).mp w), e_next]
      rw [if_neg fun w => hit (.inl w), if_neg fun w => hit (.inr w)] at q
      unfold rd__law_take_side_2
      walk_at "e0"
      rw [rs_at R1]
      walk_at "e0"
      rw [atI_2]
      walk_at "e0"
      rw [if_pos (by decide)]
      refine ⟨by show 3 ≤ sizeLine; decide, fun p2 np2 => ?_⟩
      have l2 := l1.trans (le.up (o := MO.lst [.str (Str.ofString "asker"), .str (Str.ofString "thing"), .str (Str.ofString "ask")]) np2)
      rw [up_same, v_inO]
      generalize up h1 p2 (MO.lst [.str (Str.ofString "asker"), .str (Str.ofString "thing"), .str (Str.ofString "ask")]) = h2 at l2 ⊢
      have R2 := R.le l2
      refine in_txt (zs := [Str.ofString "asker", Str.ofString "thing", Str.ofString "ask"]) ?_
      cases fk : frN (seeT (T.drop i)) with
      | none =>
        rw [fk] at q
        have q : ∀ (j : Nat) (s : Str), s.length ≤ 100 → Q (.str s) (up h c (cM wp j true zc)) := q
        rw [if_neg (fun w => by
          have := (frN_iff _).mpr ((or_any3 (Str.ofString "asker") (Str.ofString "thing") (Str.ofString "ask") _).mp w)
          rw [fk] at this
          cases this), e_next]
        exact side_3 (h := h) R2 ⟨_, le_upB l2 R.at_, q i (tk "") (by decide +kernel)⟩
      | some k =>
        rw [fk] at q
        obtain ⟨es, hk⟩ := frN_T fk
        rw [if_pos ((or_any3 (Str.ofString "asker") (Str.ofString "thing") (Str.ofString "ask") _).mpr ((frN_iff _).mp (by rw [fk]; rfl)))]
        have hi : i < T.length := lt_of_see es (by rcases (show k = 0 ∨ k = 1 ∨ k = 2 by omega) with rfl | rfl | rfl <;> decide +kernel)
        rw [rs_at R2]
        walk_at "e0"
        rw [atI_1]
        walk_at "e0"
        rw [rs_at R2]
        walk_at "e0"
        simp only [List.length_cons, List.length_nil, Nat.reduceAdd, show ixN 4 1 = some 1 from by decide, v_setK, List.set_cons_succ, List.set_cons_zero]
        have R3 : RS (up h2 c (cM wp (i + 1) false zc)) c wp T (i + 1) false zc := R2.up _ _ _
        have l3 : DL.le (up h c (cM wp (i + 1) false zc)) (up h2 c (cM wp (i + 1) false zc)) := le_upB l2 R.at_
        rw [show up h2 c (.lst [.ref wp, .int (↑i + 1), .bool false, .int zc]) = up h2 c (cM wp (i + 1) false zc) from rfl]
        generalize up h2 c (cM wp (i + 1) false zc) = h3 at R3 l3 ⊢
        have fin : ∀ (j : Nat) (b : Bool), DL.le (up h c (cM wp j b zc)) (up h3 c (cM wp j b zc)) := fun j b => by
          have := le_upB (x := cM wp j b zc) l3 up_same
          rw [up_up] at this
          exact this
        refine ⟨c, wp, T, i + 1, false, zc, _, rfl, R3, ?_⟩
        dsimp only at q
        rw [see_take] at q
        have mx : 1000 ≤ sizeLine := by decide
        have ld : (Str.ofString ".").length = 1 := by decide +kernel
        have ls : (seeT (T.drop i)).length ≤ 5 := by rw [es]; exact fr_len hk
        refine ⟨by rw [ld]; omega, ?_⟩
        by_cases dot : seeT (T.drop (i + 1)) = tk "."
        · rw [if_pos ⟨rfl, dot⟩]
          rw [if_pos dot, tail_drop, tail_drop] at q
          refine ⟨c, wp, T, i + 1 + 1, false, zc, rfl, R3.up _ _ _, ?_⟩
          rw [if_neg (by decide)]
          cases tn : takeN (T.drop (i + 1 + 1)) with
          | none =>
            rw [tn] at q
            have q : ∀ (j : Nat) (s : Str), s.length ≤ 100 → Q (.str s) (up h c (cM wp j true zc)) := q
            dsimp only
            rw [up_up]
            walk_at "e0"
            rw [show (tk "").length = 0 from by decide +kernel]
            refine ⟨by rw [Str.length_append, ld]; omega, ⟨_, fin _ _, q (i + 1 + 1) _ ?_⟩⟩
            rw [Str.length_append, Str.length_append, ld, show (tk "").length = 0 from by decide +kernel]
            omega
          | some p =>
            obtain ⟨s, r'⟩ := p
            obtain ⟨lt0, e1, g, e2⟩ := takeN_drop tn
            rw [tn] at q
            dsimp only
            rw [up_up]
            walk_at "e0"
            have lg := gd_len g
            dsimp only at lg e2
            refine ⟨by rw [Str.length_append, ld]; omega, ⟨_, fin _ _, ?_⟩⟩
            have qq := q (i + 1 + 1 + 1) lt0 e2.symm
            rw [es]
            exact qq
        · rw [if_neg (fun w => dot w.2)]
          rw [if_neg dot] at q
          have q : ∀ (j : Nat) (s : Str), s.length ≤ 100 → Q (.str s) (up h c (cM wp j true zc)) := q
          refine ⟨c, wp, T, i + 1, true, zc, rfl, R3.up _ _ _, ?_⟩
          rw [if_pos rfl, up_up]
          walk_at "e0"
          rw [show (tk "").length = 0 from by decide +kernel]
          refine ⟨by rw [Str.length_append, ld]; omega, ⟨_, fin _ _, q (i + 1) _ ?_⟩⟩
          rw [Str.length_append, Str.length_append, ld, show (tk "").length = 0 from by decide +kernel]
          omega
end
section
/-! atoms of two sides; facts -/
def cd1 (p : Cd × List Str × Nat) : D × List Str × Nat := (cdD p.1, p.2.1, p.2.2)
theorem le_of_up {h hh : MH} {c : Addr} {x : MO} (l : DL.le (up h c x) hh) (y : MO) : DL.le (up h c y) (up hh c y) := by
  have := le_upB (x := y) l up_same
  rw [up_up] at this
  exact this
def sp__law_take_atmost : P1 := fun ds h Q => ∃ c wp T i zc, ds = [.ref c] ∧ RS h c wp T i false zc ∧ Left c wp T zc Q h ((takeAt (T.drop i)).map cd1)
theorem len__law_take_atmost : ∀ ds h Q, sp__law_take_atmost ds h Q → ds.length = 1 := fun ds h Q ⟨_, _, _, _, _, e, _⟩ => by rw [e]; rfl
section
variable {Q : KD} {h hh : MH} {c wp : Addr} {T : List Str} {i j zc y : Nat} {a b : Str} {s r : Sd} {x2 x3 x4 : Option D}
/-- all is bad by now -/
theorem atm_b3 (R : RS hh c wp T j true y) (l : DL.le (up h c (cM wp j true y)) hh) (q : ∀ (j y : Nat) (d : D), Q d (up h c (cM wp j true y))) : rd__law_take_atmost_3 sp__law_take_side sp__law_take sp__law_see sp__law_take_number (endN Q) [some (.ref c), some (.str a), some (.str b), x3, x4] hh := by
  unfold rd__law_take_atmost_3
  walk_at "e0"
  refine ⟨c, wp, T, j, true, y, rfl, R, ?_⟩
  unfold rd__law_take_atmost_4
  walk_at "e0"
  rw [rs_at R]
  walk_at "e0"
  rw [atI_2]
  walk_at "e0"
  rw [if_pos trivial, if_pos trivial]
  exact ⟨by show 4 ≤ sizeLine; decide, ⟨_, l, q _ _ _⟩⟩
theorem atm_b2 (R : RS hh c wp T j true y) (l : DL.le (up h c (cM wp j true y)) hh) (q : ∀ (j y : Nat) (d : D), Q d (up h c (cM wp j true y))) : rd__law_take_atmost_2 sp__law_take_side sp__law_take sp__law_see sp__law_take_number (endN Q) [some (.ref c), some (.str a), x2, x3, x4] hh := by
  unfold rd__law_take_atmost_2
  walk_at "e0"
  refine ⟨c, wp, T, j, true, y, rfl, R, ?_⟩
  rw [if_pos rfl]
  intro j2 s hs
  exact atm_b3 (R.up j2 true y) (le_of_up l _) q
theorem atm_8 {g : Int} {sg : Str} (l : DL.le (up h c (cM wp j false (zc + y))) hh) (q : Q (.tup [.str (Str.ofString "atmost"), .str a, .str b, .int (if sg = tk "+" then g else -g)]) (up h c (cM wp j false (zc + y)))) : rd__law_take_atmost_8 sp__law_take_side sp__law_take sp__law_see sp__law_take_number (endN Q) [some (.ref c), some (.str a), some (.str b), some (.str sg), some (.int g)] hh := by
  unfold rd__law_take_atmost_8
  walk_at "e0"
  by_cases e : sg = tk "+"
  · rw [if_pos e] at q
    rw [if_pos (show decide (sg = Str.ofString "+") = true from decide_eq_true e)]
    exact ⟨by show 4 ≤ sizeLine; decide, ⟨_, l, q⟩⟩
  · rw [if_neg e] at q
    rw [if_neg (show ¬ decide (sg = Str.ofString "+") = true from fun w => e (of_decide_eq_true w))]
    exact ⟨by show 4 ≤ sizeLine; decide, ⟨_, l, q⟩⟩
theorem atm_3 (R : RS hh c wp T j false zc) (hj : j ≤ T.length) (l : DL.le (up h c (cM wp j false zc)) hh) (q : Left c wp T zc Q h ((takeGp s r (T.drop j)).map cd1)) : rd__law_take_atmost_3 sp__law_take_side sp__law_take sp__law_see sp__law_take_number (endN Q) [some (.ref c), some (.str (sdS s)), some (.str (sdS r)), x3, x4] hh := by
  unfold rd__law_take_atmost_3
  walk_at "e0"
  refine ⟨c, wp, T, j, false, zc, rfl, R, ?_⟩
  unfold rd__law_take_atmost_4
  walk_at "e0"
  rw [rs_at R]
  walk_at "e0"
  rw [atI_2]
  walk_at "e0"
  rw [if_neg (by decide)]
  refine ⟨by show 2 ≤ sizeLine; decide, fun p np => ?_⟩
  have l2 := l.trans (le.up (o := MO.lst [.str (Str.ofString "+"), .str (Str.ofString "-")]) np)
  have R2 := R.le (le.up (o := MO.lst [.str (Str.ofString "+"), .str (Str.ofString "-")]) np)
  rw [up_same, v_inO]
  generalize up hh p (MO.lst [.str (Str.ofString "+"), .str (Str.ofString "-")]) = h2 at l2 R2 ⊢
  refine in_txt (zs := [Str.ofString "+", Str.ofString "-"]) ?_
  unfold takeGp at q
  by_cases hit : seeT (T.drop j) = tk "+" ∨ seeT (T.drop j) = tk "-"
  · rw [if_pos hit] at q
    have e1 : ([Str.ofString "+", Str.ofString "-"].any fun z => decide (z = seeT (T.drop j))) = true := (or_any2 (Str.ofString "+") (Str.ofString "-") _).mpr hit
    rw [e1, if_neg (by decide), e_next]
    have hj2 : j < T.length := by
      rcases hit with e | e
      · exact lt_of_see e (by decide +kernel)
      · exact lt_of_see e (by decide +kernel)
    unfold rd__law_take_atmost_5
    walk_at "e0"
    rw [rs_at R2]
    walk_at "e0"
    rw [atI_1]
    walk_at "e0"
    rw [rs_at R2]
    walk_at "e0"
    simp only [List.length_cons, List.length_nil, Nat.reduceAdd, show ixN 4 1 = some 1 from by decide, v_setK, List.set_cons_succ, List.set_cons_zero]
    have R3 : RS (up h2 c (cM wp (j + 1) false zc)) c wp T (j + 1) false zc := R2.up _ _ _
    have l3 := le_of_up l2 (cM wp (j + 1) false zc)
    rw [show up h2 c (.lst [.ref wp, .int (↑j + 1), .bool false, .int zc]) = up h2 c (cM wp (j + 1) false zc) from rfl]
    generalize up h2 c (cM wp (j + 1) false zc) = h3 at R3 l3 ⊢
    unfold rd__law_take_atmost_6
    walk_at "e0"
    refine ⟨c, wp, T, j + 1, zc, rfl, R3, ?_⟩
    rw [see_take] at q
    cases nk : numOk (seeT (T.drop (j + 1))) with
    | none =>
      rw [nk] at q
      have q : ∀ (j y : Nat) (d : D), Q d (up h c (cM wp j true y)) := q
      dsimp only
      have R4 := R3.up (j + 1) true zc
      have l4 := le_of_up l3 (cM wp (j + 1) true zc)
      generalize up h3 c (cM wp (j + 1) true zc) = h4 at R4 l4 ⊢
      unfold rd__law_take_atmost_7
      walk_at "e0"
      rw [if_pos (by decide)]
      rw [rs_at R4]
      walk_at "e0"
      rw [atI_3]
      walk_at "e0"
      rw [rs_at R4]
      walk_at "e0"
      simp only [List.length_cons, List.length_nil, Nat.reduceAdd, show ixN 4 3 = some 3 from by decide, v_setK, List.set_cons_succ, List.set_cons_zero]
      unfold rd__law_take_atmost_8
      walk_at "e0"
      have fin : ∀ d : D, Lh Q d (up h4 c (.lst [.ref wp, .int ↑(j + 1), .bool true, .int (↑zc + 1)])) := fun d => ⟨_, le_of_up l4 (cM wp (j + 1) true (zc + 1)), q _ _ _⟩
      split
      · exact ⟨by show 4 ≤ sizeLine; decide, fin _⟩
      · exact ⟨by show 4 ≤ sizeLine; decide, fin _⟩
    | some g =>
      rw [nk] at q
      dsimp only at q ⊢
      have hj3 : j + 1 < T.length := lt_of_see rfl fun e => by
        rw [e, numOk_e] at nk
        cases nk
      rw [tail_drop, tail_drop] at q
      have R4 := R3.up (j + 1 + 1) false zc
      have l4 := le_of_up l3 (cM wp (j + 1 + 1) false zc)
      generalize up h3 c (cM wp (j + 1 + 1) false zc) = h4 at R4 l4 ⊢
      have q := q (j + 1 + 1) hj3 rfl
      unfold rd__law_take_atmost_7
      walk_at "e0"
      by_cases g0 : g = 0
      · subst g0
        rw [if_pos (by decide)]
        rw [rs_at R4]
        walk_at "e0"
        rw [atI_3]
        walk_at "e0"
        rw [rs_at R4]
        walk_at "e0"
        simp only [List.length_cons, List.length_nil, Nat.reduceAdd, show ixN 4 3 = some 3 from by decide, v_setK, List.set_cons_succ, List.set_cons_zero]
        exact atm_8 (g := 0) (y := 1) (j := j + 1 + 1) (le_of_up l4 (cM wp (j + 1 + 1) false (zc + 1))) q
      · rw [if_neg (by simpa using g0), e_next]
        have q : Q (.tup [.str (Str.ofString "atmost"), .str (sdS s), .str (sdS r), .int (if seeT (T.drop j) = tk "+" then ((g : Nat) : Int) else -((g : Nat) : Int))]) (up h c (cM wp (j + 1 + 1) false (zc + if g = 0 then 1 else 0))) := q
        rw [if_neg g0] at q
        exact atm_8 (g := ((g : Nat) : Int)) (y := 0) (j := j + 1 + 1) l4 q
  · rw [if_neg hit] at q
    have e1 : ([Str.ofString "+", Str.ofString "-"].any fun z => decide (z = seeT (T.drop j))) = false := by
      cases e : ([Str.ofString "+", Str.ofString "-"].any fun z => decide (z = seeT (T.drop j))) with
      | false => rfl
      | true => exact (hit ((or_any2 (Str.ofString "+") (Str.ofString "-") _).mp e)).elim
    rw [e1, if_pos (by decide)]
    exact ⟨by show 4 ≤ sizeLine; decide, ⟨_, l2, q j hj rfl⟩⟩
end
theorem sat__law_take_atmost : ∀ ds h Q, sp__law_take_atmost ds h Q → rd__law_take_atmost sp__law_take_side sp__law_take sp__law_see sp__law_take_number (endN Q) (startD 5 ds) h := by
  rintro ds h Q ⟨c, wp, T, i, zc, rfl, R, q⟩
  show rd__law_take_atmost sp__law_take_side sp__law_take sp__law_see sp__law_take_number (endN Q) [some (.ref c), none, none, none, none] h
  unfold rd__law_take_atmost
  walk_at "e0"
  refine ⟨c, wp, T, i, false, zc, rfl, R, ?_⟩
  rw [if_neg (by decide)]
  unfold takeAt at q
  cases e1 : takeSd (T.drop i) with
  | none =>
    rw [e1] at q
    have q : ∀ (j y : Nat) (d : D), Q d (up h c (cM wp j true y)) := q
    intro j2 s hs
    have R2 := R.up j2 true zc
    unfold rd__law_take_atmost_1
    walk_at "e0"
    refine ⟨c, wp, T, j2, true, zc, _, rfl, R2, ?_⟩
    rw [if_neg (by simp), up_up]
    exact atm_b2 (R.up _ _ _) le.refl q
  | some p =>
    obtain ⟨l, r1⟩ := p
    rw [e1] at q
    intro j hj ej
    have ej : T.drop j = r1 := ej
    subst ej
    dsimp only at q
    have R2 := R.up j false zc
    unfold rd__law_take_atmost_1
    walk_at "e0"
    refine ⟨c, wp, T, j, false, zc, _, rfl, R2, ?_⟩
    by_cases le_ : seeT (T.drop j) = tk "<="
    · have hj2 := lt_of_see le_ (by decide +kernel)
      rw [if_pos ⟨rfl, le_⟩, up_up]
      rw [if_pos le_, tail_drop] at q
      have R3 := R.up (j + 1) false zc
      unfold rd__law_take_atmost_2
      walk_at "e0"
      refine ⟨c, wp, T, j + 1, false, zc, rfl, R3, ?_⟩
      rw [if_neg (by decide)]
      cases e2 : takeSd (T.drop (j + 1)) with
      | none =>
        rw [e2] at q
        have q : ∀ (j y : Nat) (d : D), Q d (up h c (cM wp j true y)) := q
        intro j3 s hs
        rw [up_up]
        exact atm_b3 (R.up _ _ _) le.refl q
      | some p2 =>
        obtain ⟨rr, r2⟩ := p2
        rw [e2] at q
        intro j3 hj3 ej3
        have ej3 : T.drop j3 = r2 := ej3
        subst ej3
        dsimp only at q
        rw [up_up]
        exact atm_3 (R.up _ _ _) hj3 le.refl q
    · rw [if_neg (fun w => le_ w.2), up_up]
      rw [if_neg le_] at q
      have q : ∀ (j y : Nat) (d : D), Q d (up h c (cM wp j true y)) := q
      exact atm_b2 (R.up _ _ _) le.refl q
end
section
/-! facts -/
theorem eqv_ll {xs ys : List PyData} : PyData.eqv (.list xs) (.list ys) = PyData.eqvAll xs ys := by simp only [PyData.eqv]
theorem view_txt {p : Addr} {l : List Str} {h : MH} (e : h p = some (.lst (l.map D.str))) : view h (.ref p) = some (.list (pds (l.map D.str))) := by
  show viewO (h p) = _
  rw [e]
  show viewL (l.map D.str) = _
  unfold viewL
  rw [if_pos (pure_res l)]
theorem eq_is {p q : Addr} {T : List Str} {i : Nat} {s : Str} {h : MH} {Q : KD} (hs : s ≠ tk "") (e1 : h p = some (.lst (((T.drop i).take 1).map D.str))) (e2 : h q = some (.lst [.str s])) (k : Q (.bool (decide (seeT (T.drop i) = s))) h) : eqD (.ref p) (.ref q) h Q := by
  show eqvO (view h (.ref p)) (view h (.ref q)) _
  rw [view_txt e1, view_txt (l := [s]) e2]
  show Q (.bool (PyData.eqv (.list _) (.list _))) h
  rw [eqv_ll]
  cases e : T.drop i with
  | nil =>
    rw [e] at k
    rw [decide_eq_false (fun w => hs w.symm)] at k
    exact k
  | cons z r =>
    rw [e] at k
    have ee : PyData.eqvAll (pds (((z :: r).take 1).map D.str)) (pds ([s].map D.str)) = decide (z = s) := by
      show PyData.eqvAll [pd (.str z)] [pd (.str s)] = _
      simp only [pd, PyData.eqvAll, eqv_str, Bool.and_true]
    rw [ee]
    exact k
theorem cut_one {T : List Str} {i : Nat} (hi : i < T.length) : cutD (T.map D.str) (some ((i + 1 : Nat) : Int)) (some ((i + 2 : Nat) : Int)) = ((T.drop (i + 1)).take 1).map D.str := by
  unfold cutD
  rw [HT.sIx_nat, HT.sIx_nat, List.length_map, show min (i + 1) T.length = i + 1 by omega, List.map_take, List.map_drop]
  by_cases l : i + 2 ≤ T.length
  · rw [show min (i + 2) T.length - (i + 1) = 1 by omega]
  · rw [List.drop_eq_nil_of_le (by rw [List.length_map]; omega)]
    simp
theorem Left.le {Q : KD} {h hh : MH} {c wp : Addr} {T : List Str} {zc : Nat} {x : MO} {o : Option (D × List Str × Nat)} (q : Left c wp T zc Q h o) (l : DL.le h hh) (e : h c = some x) : Left c wp T zc (Lh Q) hh o := by
  have l2 : ∀ y : MO, DL.le (up h c y) (up hh c y) := fun y => le_upB l e
  cases o with
  | none =>
    have q : ∀ (j y : Nat) (d : D), Q d (up h c (cM wp j true y)) := q
    exact fun j y d => ⟨_, l2 _, q j y d⟩
  | some p => exact fun j hj ej => ⟨_, l2 _, q j hj ej⟩
def sp__law_take_fact : P1 := fun ds h Q => ∃ c wp T i zc, ds = [.ref c] ∧ RS h c wp T i false zc ∧ Left c wp T zc Q h ((takeF (T.drop i)).map cd1)
theorem len__law_take_fact : ∀ ds h Q, sp__law_take_fact ds h Q → ds.length = 1 := fun ds h Q ⟨_, _, _, _, _, e, _⟩ => by rw [e]; rfl
section
variable {Q : KD} {h hh : MH} {c wp : Addr} {T : List Str} {i j zc y : Nat} {n w : Str}
/-- a name at the end, or bad -/
theorem name_end {f : Str → D} {g : Str → Cd} (hf : ∀ s, f s = cdD (g s)) (R : RS hh c wp T j false zc) (l : DL.le (up h c (cM wp j false zc)) hh) (q : Left c wp T zc Q h (((takeN (T.drop j)).map fun p => (g p.1, p.2, 0)).map cd1)) (K : KD) (hK : ∀ (s : Str) (h3 : MH), Lh Q (f s) h3 → K (.str s) h3) : sp__law_take_name [.ref c] hh K := by
  refine ⟨c, wp, T, j, false, zc, rfl, R, ?_⟩
  rw [if_neg (by decide)]
  cases tn : takeN (T.drop j) with
  | none =>
    rw [tn] at q
    have q : ∀ (j y : Nat) (d : D), Q d (up h c (cM wp j true y)) := q
    exact hK _ _ ⟨_, le_of_up l _, q _ _ _⟩
  | some p =>
    obtain ⟨s, r'⟩ := p
    obtain ⟨lt0, _, _, e2⟩ := takeN_drop tn
    rw [tn] at q
    have qq := q (j + 1) lt0 e2.symm
    have qq : Q (cdD (g s)) (up h c (cM wp (j + 1) false zc)) := qq
    rw [← hf] at qq
    exact hK _ _ ⟨_, le_of_up l _, qq⟩
/-- behind 'by name' -/
theorem fact_7 (R : RS hh c wp T j false zc) (hj : j ≤ T.length) (l : DL.le (up h c (cM wp j false zc)) hh) (q : Left c wp T zc Q h ((takeBy n (T.drop j)).map cd1)) : rd__law_take_fact_7 sp__law_see sp__law_take_name sp__law_take_atmost sp__law_take (endN Q) [some (.ref c), some (.str w), some (.str n)] hh := by
  unfold rd__law_take_fact_7
  walk_at "e0"
  refine ⟨c, wp, T, j, false, zc, _, rfl, R, ?_⟩
  unfold takeBy at q
  by_cases to_ : seeT (T.drop j) = tk "to"
  · have hj1 := lt_of_see to_ (by decide +kernel)
    rw [if_pos ⟨rfl, to_⟩]
    rw [if_pos to_, tail_drop, tail_drop] at q
    have R2 := R.up (j + 1) false zc
    have l2 := le_of_up l (cM wp (j + 1) false zc)
    generalize up hh c (cM wp (j + 1) false zc) = h2 at R2 l2 ⊢
    unfold rd__law_take_fact_8
    walk_at "e0"
    rw [rs_at R2]
    walk_at "e0"
    rw [atI_2]
    walk_at "e0"
    rw [if_pos (by decide)]
    refine ⟨c, wp, T, j + 1, false, zc, rfl, R2, ?_⟩
    walk_at "e0"
    by_cases th : seeT (T.drop (j + 1)) = tk "thing"
    · have hj2 := lt_of_see th (by decide +kernel)
      rw [if_pos (show decide (seeT (T.drop (j + 1)) = Str.ofString "thing") = true from decide_eq_true th)]
      rw [if_pos th] at q
      rw [rs_at R2]
      walk_at "e0"
      rw [atI_1]
      walk_at "e0"
      rw [rs_at R2]
      walk_at "e0"
      simp only [List.length_cons, List.length_nil, Nat.reduceAdd, show ixN 4 1 = some 1 from by decide, v_setK, List.set_cons_succ, List.set_cons_zero]
      exact ⟨by show 3 ≤ sizeLine; decide, ⟨_, le_of_up l2 (cM wp (j + 1 + 1) false zc), q (j + 1 + 1) hj2 rfl⟩⟩
    · rw [if_neg (show ¬ decide (seeT (T.drop (j + 1)) = Str.ofString "thing") = true from fun z => th (of_decide_eq_true z)), e_next]
      rw [if_neg th] at q
      unfold rd__law_take_fact_9
      walk_at "e0"
      refine name_end (f := fun s => .tup [.str (Str.ofString "walk"), .str n, .str s]) (g := fun s => .walk n s) (fun s => rfl) R2 l2 q _ fun s h3 k => ?_
      walk_at "e0"
      exact ⟨by show 3 ≤ sizeLine; decide, k⟩
  · rw [if_neg (fun z => to_ z.2)]
    rw [if_neg to_] at q
    have q : ∀ (j y : Nat) (d : D), Q d (up h c (cM wp j true y)) := q
    have R2 := R.up j true zc
    have l2 := le_of_up l (cM wp j true zc)
    generalize up hh c (cM wp j true zc) = h2 at R2 l2 ⊢
    unfold rd__law_take_fact_8
    walk_at "e0"
    rw [rs_at R2]
    walk_at "e0"
    rw [atI_2]
    walk_at "e0"
    rw [if_neg (by decide), if_neg (by decide), e_next]
    unfold rd__law_take_fact_9
    walk_at "e0"
    refine ⟨c, wp, T, j, true, zc, rfl, R2, ?_⟩
    rw [if_pos rfl]
    walk_at "e0"
    exact ⟨by show 3 ≤ sizeLine; decide, ⟨_, le_of_up l2 _, q _ _ _⟩⟩
/-- behind the first test -/
theorem fact_2 (R : RS hh c wp T i false zc) (l : DL.le (up h c (cM wp i false zc)) hh) (q : Left c wp T zc Q h ((if seeT (T.drop i) = tk "always" then some (.always, (T.drop i).tail, 0)
  else if seeT (T.drop i) = tk "@" then (takeN (T.drop i).tail).map fun p => (.named p.1, p.2, 0)
  else if seeT (T.drop i) = tk "by" then (match takeN (T.drop i).tail with
    | none => none
    | some (n, r1) => takeBy n r1)
  else takeAt (T.drop i)).map cd1)) : rd__law_take_fact_2 sp__law_see sp__law_take_name sp__law_take_atmost sp__law_take (endN Q) [some (.ref c), some (.str (seeT (T.drop i))), none] hh := by
  unfold rd__law_take_fact_2
  walk_at "e0"
  refine ⟨by show 3 ≤ sizeLine; decide, fun p np => ?_⟩
  have l2 := l.trans (le.up (o := MO.lst [.str (Str.ofString "@"), .str (Str.ofString "always"), .str (Str.ofString "by")]) np)
  have R2 := R.le (le.up (o := MO.lst [.str (Str.ofString "@"), .str (Str.ofString "always"), .str (Str.ofString "by")]) np)
  rw [up_same, v_inO]
  generalize up hh p (MO.lst [.str (Str.ofString "@"), .str (Str.ofString "always"), .str (Str.ofString "by")]) = h2 at l2 R2 ⊢
  refine in_txt (zs := [Str.ofString "@", Str.ofString "always", Str.ofString "by"]) ?_
  by_cases hit : seeT (T.drop i) = tk "@" ∨ seeT (T.drop i) = tk "always" ∨ seeT (T.drop i) = tk "by"
  · have e1 : ([Str.ofString "@", Str.ofString "always", Str.ofString "by"].any fun z => decide (z = seeT (T.drop i))) = true := (or_any3 (Str.ofString "@") (Str.ofString "always") (Str.ofString "by") _).mpr hit
    rw [e1, if_neg (by decide), e_next]
    have hi : i < T.length := by
      rcases hit with e | e | e
      · exact lt_of_see e (by decide +kernel)
      · exact lt_of_see e (by decide +kernel)
      · exact lt_of_see e (by decide +kernel)
    rw [tail_drop] at q
    unfold rd__law_take_fact_3
    walk_at "e0"
    rw [rs_at R2]
    walk_at "e0"
    rw [atI_1]
    walk_at "e0"
    rw [rs_at R2]
    walk_at "e0"
    simp only [List.length_cons, List.length_nil, Nat.reduceAdd, show ixN 4 1 = some 1 from by decide, v_setK, List.set_cons_succ, List.set_cons_zero]
    have R3 : RS (up h2 c (cM wp (i + 1) false zc)) c wp T (i + 1) false zc := R2.up _ _ _
    have l3 := le_of_up l2 (cM wp (i + 1) false zc)
    rw [show up h2 c (.lst [.ref wp, .int (↑i + 1), .bool false, .int zc]) = up h2 c (cM wp (i + 1) false zc) from rfl]
    generalize up h2 c (cM wp (i + 1) false zc) = h3 at R3 l3 ⊢
    unfold rd__law_take_fact_4
    walk_at "e0"
    by_cases al : seeT (T.drop i) = tk "always"
    · rw [if_pos (show decide (seeT (T.drop i) = Str.ofString "always") = true from decide_eq_true al)]
      rw [if_pos al] at q
      exact ⟨by show 1 ≤ sizeLine; decide, ⟨_, l3, q (i + 1) hi rfl⟩⟩
    rw [if_neg (show ¬ decide (seeT (T.drop i) = Str.ofString "always") = true from fun z => al (of_decide_eq_true z)), e_next]
    rw [if_neg al] at q
    unfold rd__law_take_fact_5
    walk_at "e0"
    by_cases at_ : seeT (T.drop i) = tk "@"
    · rw [if_pos at_] at q
      refine name_end (f := fun s => .tup [.str (Str.ofString "named"), .str s]) (g := fun s => .named s) (fun s => rfl) R3 l3 q _ fun s h4 k => ?_
      unfold rd__law_take_fact_6
      walk_at "e0"
      rw [if_pos (show decide (seeT (T.drop i) = Str.ofString "@") = true from decide_eq_true at_)]
      exact ⟨by show 2 ≤ sizeLine; decide, k⟩
    · have by_ : seeT (T.drop i) = tk "by" := by
        rcases hit with e | e | e
        · exact (at_ e).elim
        · exact (al e).elim
        · exact e
      rw [if_neg at_, if_pos by_] at q
      refine ⟨c, wp, T, i + 1, false, zc, rfl, R3, ?_⟩
      rw [if_neg (by decide)]
      cases tn : takeN (T.drop (i + 1)) with
      | none =>
        rw [tn] at q
        have q : ∀ (j y : Nat) (d : D), Q d (up h c (cM wp j true y)) := q
        dsimp only
        have R4 := R3.up (i + 1) true zc
        have l4 := le_of_up l3 (cM wp (i + 1) true zc)
        generalize up h3 c (cM wp (i + 1) true zc) = h4 at R4 l4 ⊢
        unfold rd__law_take_fact_6
        walk_at "e0"
        rw [if_neg (show ¬ decide (seeT (T.drop i) = Str.ofString "@") = true from fun z => at_ (of_decide_eq_true z)), e_next]
        unfold rd__law_take_fact_7
        walk_at "e0"
        refine ⟨c, wp, T, i + 1, true, zc, _, rfl, R4, ?_⟩
        rw [if_neg (by simp)]
        have R5 := R4.up (i + 1) true zc
        have l5 := le_of_up l4 (cM wp (i + 1) true zc)
        generalize up h4 c (cM wp (i + 1) true zc) = h5 at R5 l5 ⊢
        unfold rd__law_take_fact_8
        walk_at "e0"
        rw [rs_at R5]
        walk_at "e0"
        rw [atI_2]
        walk_at "e0"
        rw [if_neg (by decide), if_neg (by decide), e_next]
        unfold rd__law_take_fact_9
        walk_at "e0"
        refine ⟨c, wp, T, i + 1, true, zc, rfl, R5, ?_⟩
        rw [if_pos rfl]
        walk_at "e0"
        exact ⟨by show 3 ≤ sizeLine; decide, ⟨_, le_of_up l5 _, q _ _ _⟩⟩
      | some p =>
        obtain ⟨s, r'⟩ := p
        obtain ⟨lt0, _, _, e2⟩ := takeN_drop tn
        dsimp only at e2
        subst e2
        rw [tn] at q
        dsimp only at q ⊢
        have R4 := R3.up (i + 1 + 1) false zc
        have l4 := le_of_up l3 (cM wp (i + 1 + 1) false zc)
        generalize up h3 c (cM wp (i + 1 + 1) false zc) = h4 at R4 l4 ⊢
        unfold rd__law_take_fact_6
        walk_at "e0"
        rw [if_neg (show ¬ decide (seeT (T.drop i) = Str.ofString "@") = true from fun z => at_ (of_decide_eq_true z)), e_next]
        exact fact_7 R4 lt0 l4 q
  · have e1 : ([Str.ofString "@", Str.ofString "always", Str.ofString "by"].any fun z => decide (z = seeT (T.drop i))) = false := by
      cases e : ([Str.ofString "@", Str.ofString "always", Str.ofString "by"].any fun z => decide (z = seeT (T.drop i))) with
      | false => rfl
      | true => exact (hit ((or_any3 (Str.ofString "@") (Str.ofString "always") (Str.ofString "by") _).mp e)).elim
    rw [e1, if_pos (by decide)]
    rw [if_neg (fun z => hit (.inr (.inl z))), if_neg (fun z => hit (.inl z)), if_neg (fun z => hit (.inr (.inr z)))] at q
    refine ⟨c, wp, T, i, zc, rfl, R2, ?_⟩
    have l3 : ∀ y : MO, DL.le (up h c y) (up h2 c y) := fun y => le_of_up l2 y
    cases e : (takeAt (T.drop i)).map cd1 with
    | none =>
      rw [e] at q
      have q : ∀ (j y : Nat) (d : D), Q d (up h c (cM wp j true y)) := q
      exact fun j y d => ⟨_, l3 _, q j y d⟩
    | some p =>
      rw [e] at q
      exact fun j hj ej => ⟨_, l3 _, q j hj ej⟩
end
theorem sat__law_take_fact : ∀ ds h Q, sp__law_take_fact ds h Q → rd__law_take_fact sp__law_see sp__law_take_name sp__law_take_atmost sp__law_take (endN Q) (startD 3 ds) h := by
  rintro ds h Q ⟨c, wp, T, i, zc, rfl, R, q⟩
  show rd__law_take_fact sp__law_see sp__law_take_name sp__law_take_atmost sp__law_take (endN Q) [some (.ref c), none, none] h
  have l0 : DL.le (up h c (cM wp i false zc)) h := by rw [up_id R.at_]; exact le.refl
  unfold rd__law_take_fact
  walk_at "e0"
  refine ⟨c, wp, T, i, false, zc, rfl, R, ?_⟩
  unfold rd__law_take_fact_1
  walk_at "e0"
  refine ⟨by show 3 ≤ sizeLine; decide, fun p np => ?_⟩
  have l2 := l0.trans (le.up (o := MO.lst [.str (Str.ofString "asker"), .str (Str.ofString "thing"), .str (Str.ofString "ask")]) np)
  have R2 := R.le (le.up (o := MO.lst [.str (Str.ofString "asker"), .str (Str.ofString "thing"), .str (Str.ofString "ask")]) np)
  rw [up_same, v_inO]
  generalize up h p (MO.lst [.str (Str.ofString "asker"), .str (Str.ofString "thing"), .str (Str.ofString "ask")]) = h2 at l2 R2 ⊢
  refine in_txt (zs := [Str.ofString "asker", Str.ofString "thing", Str.ofString "ask"]) ?_
  unfold takeF at q
  rw [see_take] at q
  cases fk : frN (seeT (T.drop i)) with
  | none =>
    rw [if_neg (fun w => by rw [fk] at w; cases w.1)] at q
    have e1 : ([Str.ofString "asker", Str.ofString "thing", Str.ofString "ask"].any fun z => decide (z = seeT (T.drop i))) = false := by
      cases e : ([Str.ofString "asker", Str.ofString "thing", Str.ofString "ask"].any fun z => decide (z = seeT (T.drop i))) with
      | false => rfl
      | true =>
        have := (frN_iff _).mpr ((or_any3 (Str.ofString "asker") (Str.ofString "thing") (Str.ofString "ask") _).mp e)
        rw [fk] at this
        cases this
    rw [e1, if_neg (by decide), if_neg (by decide), e_next]
    exact fact_2 R2 l2 q
  | some k =>
    obtain ⟨es, hk⟩ := frN_T fk
    have e1 : ([Str.ofString "asker", Str.ofString "thing", Str.ofString "ask"].any fun z => decide (z = seeT (T.drop i))) = true := (or_any3 (Str.ofString "asker") (Str.ofString "thing") (Str.ofString "ask") _).mpr ((frN_iff _).mp (by rw [fk]; rfl))
    have hi : i < T.length := lt_of_see es (by rcases (show k = 0 ∨ k = 1 ∨ k = 2 by omega) with rfl | rfl | rfl <;> decide +kernel)
    rw [e1, if_pos rfl]
    rw [rs_at R2]
    walk_at "e0"
    rw [atI_z]
    walk_at "e0"
    rw [rs_at R2]
    walk_at "e0"
    rw [atI_1]
    walk_at "e0"
    rw [rs_at R2]
    walk_at "e0"
    rw [atI_1]
    walk_at "e0"
    rw [R2.ws]
    walk_at "e0"
    rw [show ((i : Nat) : Int) + 1 = ((i + 1 : Nat) : Int) by omega, show ((i : Nat) : Int) + 2 = ((i + 2 : Nat) : Int) by omega, cut_one hi]
    intro p2 np2
    have l3 := l2.trans (le.up (o := MO.lst (((T.drop (i + 1)).take 1).map D.str)) np2)
    have R3 := R2.le (le.up (o := MO.lst (((T.drop (i + 1)).take 1).map D.str)) np2)
    have e3 : up h2 p2 (.lst (((T.drop (i + 1)).take 1).map D.str)) p2 = some (.lst (((T.drop (i + 1)).take 1).map D.str)) := up_same
    generalize up h2 p2 (.lst (((T.drop (i + 1)).take 1).map D.str)) = h3 at l3 R3 e3 ⊢
    refine ⟨by show 1 ≤ sizeLine; decide, fun p3 np3 => ?_⟩
    have l4 := l3.trans (le.up (o := MO.lst [.str (Str.ofString "is")]) np3)
    have R4 := R3.le (le.up (o := MO.lst [.str (Str.ofString "is")]) np3)
    refine eq_is (T := T) (i := i + 1) (s := Str.ofString "is") (by decide +kernel) ((up_ne (nef e3 np3)).trans e3) up_same ?_
    generalize up h3 p3 (MO.lst [.str (Str.ofString "is")]) = h4 at l4 R4 ⊢
    rw [e_asB]
    by_cases is_ : seeT (T.drop (i + 1)) = tk "is"
    · have hi2 := lt_of_see is_ (by decide +kernel)
      rw [if_pos (show decide (seeT (T.drop (i + 1)) = Str.ofString "is") = true from decide_eq_true is_)]
      rw [if_pos ⟨by rw [fk]; rfl, is_⟩, fk, tail_drop, tail_drop] at q
      rw [rs_at R4]
      walk_at "e0"
      rw [atI_1]
      walk_at "e0"
      rw [rs_at R4]
      walk_at "e0"
      simp only [List.length_cons, List.length_nil, Nat.reduceAdd, show ixN 4 1 = some 1 from by decide, v_setK, List.set_cons_succ, List.set_cons_zero]
      have R5 : RS (up h4 c (cM wp (i + 1 + 1) false zc)) c wp T (i + 1 + 1) false zc := R4.up _ _ _
      have l5 := le_of_up l4 (cM wp (i + 1 + 1) false zc)
      rw [show up h4 c (.lst [.ref wp, .int (↑i + 2), .bool false, .int zc]) = up h4 c (cM wp (i + 1 + 1) false zc) by unfold cM; rw [show ((i + 1 + 1 : Nat) : Int) = (i : Int) + 2 by omega]]
      generalize up h4 c (cM wp (i + 1 + 1) false zc) = h5 at R5 l5 ⊢
      refine name_end (f := fun s => cdD (isF k s)) (g := fun s => isF k s) (fun s => rfl) R5 l5 q _ fun s h6 kk => ?_
      walk_at "e0"
      by_cases ask : k = 2
      · have e : seeT (T.drop i) = tk "ask" := by rw [es, ask]; rfl
        rw [if_pos (show decide (seeT (T.drop i) = Str.ofString "ask") = true from decide_eq_true e)]
        unfold isF at kk
        rw [if_pos ask] at kk
        exact ⟨by show 2 ≤ sizeLine; decide, kk⟩
      · have e : seeT (T.drop i) ≠ tk "ask" := by
          rw [es]
          rcases (show k = 0 ∨ k = 1 by omega) with rfl | rfl <;> decide +kernel
        rw [if_neg (show ¬ decide (seeT (T.drop i) = Str.ofString "ask") = true from fun z => e (of_decide_eq_true z))]
        unfold isF at kk
        rw [if_neg ask] at kk
        rw [es]
        exact ⟨by show 3 ≤ sizeLine; decide, kk⟩
    · rw [if_neg (show ¬ decide (seeT (T.drop (i + 1)) = Str.ofString "is") = true from fun z => is_ (of_decide_eq_true z)), e_next]
      rw [if_neg (fun w => is_ w.2)] at q
      exact fact_2 R4 l4 q
end
section
/-! folding -/
structure M2 (h hh : MH) (p q : Addr) (x y : MO) : Prop where
  old : ∀ b u, h b = some u → b ≠ p → b ≠ q → hh b = some u
  a1 : hh p = some x
  a2 : hh q = some y
  ne : p ≠ q
section
variable {h hh : MH} {p q r : Addr} {x y z : MO}
theorem M2.s1 (M : M2 h hh p q x y) (x' : MO) : M2 h (up hh p x') p q x' y := ⟨fun b u e n1 n2 => by rw [up_ne n1]; exact M.old b u e n1 n2, up_same, by rw [up_ne M.ne.symm]; exact M.a2, M.ne⟩
theorem M2.s2 (M : M2 h hh p q x y) (y' : MO) : M2 h (up hh q y') p q x y' := ⟨fun b u e n1 n2 => by rw [up_ne n2]; exact M.old b u e n1 n2, by rw [up_ne M.ne]; exact M.a1, up_same, M.ne⟩
theorem M2.le_ (M : M2 h hh p q x y) : DL.le (up (up h p x) q y) hh := fun b u e => by
  by_cases n2 : b = q
  · subst n2; rw [up_same] at e; cases e; exact M.a2
  · rw [up_ne n2] at e
    by_cases n1 : b = p
    · subst n1; rw [up_same] at e; cases e; exact M.a1
    · rw [up_ne n1] at e; exact M.old b u e n1 n2
end
def wtS : Wt → Str
  | .par => Str.ofString "("
  | .nt => Str.ofString "not"
  | .op o => opS o
def wtD (o : Wt) : D := .str (wtS o)
def vsD (vs : List Cd) : List D := vs.reverse.map cdD
def wsD (ws : List Wt) : List D := ws.reverse.map wtD
theorem vsD_cons (v : Cd) (vs : List Cd) : vsD (v :: vs) = vsD vs ++ [cdD v] := by unfold vsD; rw [List.reverse_cons, List.map_append]; rfl
theorem wsD_cons (o : Wt) (ws : List Wt) : wsD (o :: ws) = wsD ws ++ [wtD o] := by unfold wsD; rw [List.reverse_cons, List.map_append]; rfl
theorem vsD_len (vs : List Cd) : (vsD vs).length = vs.length := by unfold vsD; rw [List.length_map, List.length_reverse]
theorem wsD_len (ws : List Wt) : (wsD ws).length = ws.length := by unfold wsD; rw [List.length_map, List.length_reverse]
def isOp : Wt → Bool
  | .op _ => true
  | _ => false
def ops (ws : List Wt) : Nat := ws.countP isOp
theorem ops_some (o : Bool) (ws : List Wt) : ops (.op o :: ws) = ops ws + 1 := by unfold ops; rw [List.countP_cons]; rfl
theorem ops_par (ws : List Wt) : ops (.par :: ws) = ops ws := by unfold ops; rw [List.countP_cons]; rfl
theorem ops_nt (ws : List Wt) : ops (.nt :: ws) = ops ws := by unfold ops; rw [List.countP_cons]; rfl
def plD (P : Bool) : List D := if P = true then [.str (Str.ofString "and"), .str (Str.ofString "or")] else [.str (Str.ofString "and")]
theorem pop_eq {h : MH} {Q : KD} {a : Addr} {xs : List D} {y : D} (e : h a = some (.lst (xs ++ [y]))) (q : Q y (up h a (.lst xs))) : popD (.ref a) [] h Q := by
  show lstK (fun xs => ∃ y, xs.getLast? = some y ∧ Q y (up h a (.lst xs.dropLast))) (h a)
  rw [e]
  exact ⟨y, by simp, by rw [List.dropLast_concat]; exact q⟩
def foP (P : Bool) : Wt → Bool
  | .par => false
  | .nt => false
  | .op o => o || P
theorem in_pl {P : Bool} {o : Wt} {k : Bool → Prop} (q : k (foP P o)) : inSeq (wtD o) k (plD P) := by
  refine ⟨?_, ?_, ?_⟩
  · cases o <;> simp [wtD, pure?]
  · cases P <;> simp [plD, pures?, pure?]
  · have e : ((plD P).any fun z => eqF z (wtD o)) = foP P o := by
      cases P <;> (cases o with
        | par => kernel_rfl
        | nt => kernel_rfl
        | op o => cases o <;> kernel_rfl)
    rw [e]
    exact q
def sp__law_fold : P1 := fun ds h Q => ∃ pv pw pl P vs ws, ds = [.ref pv, .ref pw, .ref pl] ∧ h pv = some (.lst (vsD vs)) ∧ h pw = some (.lst (wsD ws)) ∧ h pl = some (.lst (plD P)) ∧ pv ≠ pw ∧ pl ≠ pv ∧ pl ≠ pw ∧ ops ws < vs.length ∧ vs.length ≤ 900000 ∧ ws.length ≤ 900000 ∧
  Q .none (up (up h pv (.lst (vsD (foldT P vs ws).1))) pw (.lst (wsD (foldT P vs ws).2)))
theorem len__law_fold : ∀ ds h Q, sp__law_fold ds h Q → ds.length = 3 := fun ds h Q ⟨_, _, _, _, _, _, e, _⟩ => by rw [e]; rfl
theorem sat__law_fold : ∀ ds h Q, sp__law_fold ds h Q → rd__law_fold (endN Q) (startD 6 ds) h := by
  rintro ds h Q ⟨pv, pw, pl, P, vs, ws, rfl, ev, ew, el, vw, lv, lw, hc, hv, hw, q⟩
  show rd__law_fold (endN Q) [some (.ref pv), some (.ref pw), some (.ref pl), none, none, none] h
  unfold rd__law_fold
  walk_at "e0"
  rw [ew]
  walk_at "e0"
  rw [wsD_len]
  refine ⟨bnd62 (by omega), ?_⟩
  have fin : ∀ {hh : MH} {vs' : List Cd} {ws' : List Wt}, M2 h hh pv pw (.lst (vsD vs')) (.lst (wsD ws')) → foldT P vs ws = (vs', ws') → Lh Q .none hh := fun M e => ⟨_, M.le_, by rw [e] at q; exact q⟩
  refine ⟨fun i σ hh => ∃ (vs' : List Cd) (ws' : List Wt) (x3 x4 x5 : Option D), M2 h hh pv pw (.lst (vsD vs')) (.lst (wsD ws')) ∧ foldT P vs' ws' = foldT P vs ws ∧ ops ws' < vs'.length ∧ ws'.length + i = ws.length ∧ vs'.length ≤ vs.length ∧ σ = [some (.ref pv), some (.ref pw), some (.ref pl), x3, x4, x5], Lw.of ⟨vs, ws, none, none, none, ⟨fun b u e _ _ => e, ev, ew, vw⟩, rfl, hc, rfl, Nat.le_refl _, rfl⟩, fun _ _ _ _ => trivial, ?_, ?_⟩
  · rintro i x σ hh hx ⟨vs', ws', x3, x4, x5, M, ef, hc', hl, hv', rfl⟩
    obtain ⟨hi, rfl⟩ := rg_at hx
    walk_at "e0"
    unfold rd__law_fold_b1
    walk_at "e0"
    obtain ⟨o, ws2, rfl⟩ : ∃ o ws2, ws' = o :: ws2 := by
      cases ws' with
      | nil => simp at hl; omega
      | cons o ws2 => exact ⟨o, ws2, rfl⟩
    rw [M.a2]
    walk_at "e0"
    rw [wsD_len, if_neg (by simp; omega)]
    rw [M.a2]
    walk_at "e0"
    rw [atI_neg (x := wtD o) (by rw [wsD_cons]; simp)]
    walk_at "e0"
    rw [M.old pl _ el lv lw, v_inO]
    refine in_pl ?_
    cases hf : foP P o with
    | false =>
      rw [if_pos (by decide)]
      refine fin M (ef.symm.trans ?_)
      cases o with
      | par => exact foldT_par _ _ _
      | nt => exact foldT_nt _ _ _
      | op o =>
        cases vs' with
        | nil => simp at hc'
        | cons s vs' =>
          cases vs' with
          | nil => exact foldT_one _ _ _
          | cons f vs' => exact foldT_no hf _ _ _ _
    | true =>
      rw [if_neg (by decide), e_next]
      cases o with
      | par => cases hf
      | nt => cases hf
      | op o =>
        rw [ops_some] at hc'
        obtain ⟨s, f, vs2, rfl⟩ : ∃ s f vs2, vs' = s :: f :: vs2 := by
          cases vs' with
          | nil => simp at hc'
          | cons s vs' =>
            cases vs' with
            | nil => simp at hc'
            | cons f vs' => exact ⟨s, f, vs', rfl⟩
        unfold rd__law_fold_b1_1
        walk_at "e0"
        rw [M.a1]
        refine ⟨trivial, pop_eq (xs := vsD (f :: vs2)) (y := cdD s) (by rw [M.a1, vsD_cons]) ?_⟩
        have M1 := M.s1 (.lst (vsD (f :: vs2)))
        generalize up hh pv (.lst (vsD (f :: vs2))) = h1 at M1 ⊢
        unfold rd__law_fold_b1_2
        walk_at "e0"
        rw [M1.a1]
        refine ⟨trivial, pop_eq (xs := vsD vs2) (y := cdD f) (by rw [M1.a1, vsD_cons]) ?_⟩
        have M2' := M1.s1 (.lst (vsD vs2))
        generalize up h1 pv (.lst (vsD vs2)) = h2 at M2' ⊢
        unfold rd__law_fold_b1_3
        walk_at "e0"
        rw [M2'.a1]
        walk_at "e0"
        rw [M2'.a2]
        refine ⟨trivial, trivial, pop_eq (xs := wsD ws2) (y := wtD (.op o)) (by rw [M2'.a2, wsD_cons]) ?_⟩
        have M3 := M2'.s2 (.lst (wsD ws2))
        generalize up h2 pw (.lst (wsD ws2)) = h3 at M3 ⊢
        walk_at "e0"
        rw [M3.a1]
        have M4 := M3.s1 (.lst (vsD (.bin o f s :: vs2)))
        rw [vsD_cons] at M4
        refine ⟨by show 3 ≤ sizeLine; decide, sl_lt (by rw [vsD_len]; simp at hv'; omega), Lw.of ⟨.bin o f s :: vs2, ws2, _, _, _, by rw [vsD_cons]; exact M4, ?_, ?_, ?_, ?_, rfl⟩⟩
        · rw [← ef, foldT_yes hf]
        · simp at hc' ⊢; omega
        · simp at hl; omega
        · simp at hv' ⊢; omega
  · rintro σ hh ⟨vs', ws', x3, x4, x5, M, ef, hc', hl, hv', rfl⟩
    rw [rg_len] at hl
    have e0 : ws' = [] := List.length_eq_zero_iff.mp (by omega)
    subst e0
    rw [foldT_nil] at ef
    exact fin M ef.symm
end
section
/-! the law's reader: the loop -/
theorem OV.baseM {h hh : MH} {c : Addr} {ws : List (Addr × MO)} {u : MO} (L : OV h hh ws) (e : h c = some u) (x : MO) : OV (up h c x) (up hh c x) ws := by
  have nc : ∀ p ∈ ws, p.1 ≠ c := fun p hp z => by
    have := L.fr p hp
    rw [z, e] at this
    cases this
  refine ⟨fun b w q => ?_, fun p hp => ?_, fun p hp => ?_, L.nd⟩
  · by_cases z : b = c
    · subst z; rw [up_same] at q ⊢; exact q
    · rw [up_ne z] at q ⊢; exact L.ext b w q
  · rw [up_ne (nc p hp)]; exact L.at_ p hp
  · rw [up_ne (nc p hp)]; exact L.fr p hp
theorem OV.cast2 {h h2 hh : MH} {ws : List (Addr × MO)} (L : OV h hh ws) (e : h = h2) : OV h2 hh ws := e ▸ L
theorem rs_ov {h0 h hh : MH} {c wp : Addr} {T : List Str} {i j : Nat} {b k : Bool} {y0 y : Nat} {ws : List (Addr × MO)} (R : RS h0 c wp T i b y0) (e : h = up h0 c (cM wp j k y)) (L : OV h hh ws) : RS hh c wp T j k y := by
  subst e
  exact (R.up j k y).le L.ext
theorem ov_rd {h0 hh : MH} {c wp : Addr} {j : Nat} {k : Bool} {y : Nat} {ws : List (Addr × MO)} (L : OV (up h0 c (cM wp j k y)) hh ws) (j' : Nat) (k' : Bool) (y' : Nat) : OV (up h0 c (cM wp j' k' y')) (up hh c (cM wp j' k' y')) ws := (L.baseM DL.up_same (cM wp j' k' y')).cast2 DL.up_up
theorem Nr_ops {k m : Nat} {vs : List Cd} {ws : List Wt} (N : Nr k vs ws m) : ops ws = vs.length := by
  induction N with
  | nil => rfl
  | par _ ih => rw [ops_par, ih]
  | nt _ ih => rw [ops_nt, ih]
  | or v _ ih => rw [ops_some, ih]; rfl
  | then_ v _ _ ih => rw [ops_some, ih]; rfl
theorem Rdy_ops {c : Nat} {vs : List Cd} {ws : List Wt} (R : Rdy vs ws c) : ops ws < vs.length := by
  obtain ⟨v, us, k, m, rfl, N, _, _⟩ := R
  rw [Nr_ops N]
  exact Nat.lt_succ_self _
theorem foldT_len (P : Bool) : ∀ (ws : List Wt) (vs : List Cd), (foldT P vs ws).1.length ≤ vs.length ∧ (foldT P vs ws).2.length ≤ ws.length
  | [], vs => by rw [foldT_nil]; exact ⟨Nat.le_refl _, Nat.le_refl _⟩
  | .par :: ws, vs => by rw [foldT_par]; exact ⟨Nat.le_refl _, Nat.le_refl _⟩
  | .nt :: ws, vs => by rw [foldT_nt]; exact ⟨Nat.le_refl _, Nat.le_refl _⟩
  | .op o :: ws, [] => by rw [foldT_z]; exact ⟨Nat.le_refl _, Nat.le_refl _⟩
  | .op o :: ws, [v] => by rw [foldT_one]; exact ⟨Nat.le_refl _, Nat.le_refl _⟩
  | .op o :: ws, s :: f :: vs => by
    by_cases h : (o || P) = true
    · rw [foldT_yes h]
      have ih := foldT_len P ws (.bin o f s :: vs)
      simp only [List.length_cons] at ih ⊢
      omega
    · rw [foldT_no (by simpa using h)]; exact ⟨Nat.le_refl _, Nat.le_refl _⟩
theorem unN_len : ∀ (ws : List Wt) (vs : List Cd), (unN vs ws).1.length = vs.length ∧ (unN vs ws).2.length ≤ ws.length
  | [], vs => by rw [unN_no rfl]; exact ⟨rfl, Nat.le_refl _⟩
  | .par :: ws, vs => by rw [unN_no rfl]; exact ⟨rfl, Nat.le_refl _⟩
  | .op o :: ws, vs => by rw [unN_no rfl]; exact ⟨rfl, Nat.le_refl _⟩
  | .nt :: ws, [] => by rw [unN_z]; exact ⟨rfl, Nat.le_refl _⟩
  | .nt :: ws, v :: vs => by
    rw [unN_nt]
    have ih := unN_len ws (.nt v :: vs)
    simp only [List.length_cons] at ih ⊢
    omega
theorem turn_len {s s' : St} (e : turnT s = .go s') : s'.vs.length ≤ s.vs.length + 1 ∧ s'.ws.length ≤ s.ws.length + 1 := by
  obtain ⟨r, rd, vs, ws, z⟩ := s
  have f1 := foldT_len true ws vs
  have f2 := foldT_len false ws vs
  cases rd with
  | false =>
    rw [turn_eqN] at e
    split at e
    · cases e; simp
    split at e
    · cases e; simp
    · split at e
      · cases e
      · rename_i w r' dz t
        cases e
        have := unN_len ws (w :: vs)
        simp only [List.length_cons] at this ⊢
        omega
  | true =>
    rw [turn_eqY] at e
    split at e
    · cases e; simp; omega
    split at e
    · cases e; simp; omega
    split at e
    · cases e
      have := unN_len (foldT true vs ws).2.tail (foldT true vs ws).1
      have t : (foldT true vs ws).2.tail.length ≤ (foldT true vs ws).2.length := by rw [List.length_tail]; omega
      dsimp only
      omega
    · cases e
structure IA (h : MH) (c wp : Addr) (T : List Str) (pv pw : Addr) (k : Nat) (s : St) (j : Nat) (hh : MH) : Prop where
  L : OV (up h c (cM wp j false s.z)) hh [(pw, .lst (wsD s.ws)), (pv, .lst (vsD s.vs))]
  r : s.r = T.drop j
  jl : j ≤ T.length
  inv : InvS (cnt T) s
  ran : s.r.length + k ≤ T.length
  vl : s.vs.length ≤ k
  wl : s.ws.length ≤ k
  run : runT (T.length + 1) ⟨T, false, [], [], 0⟩ = runT (T.length + 1 - k) s
def IL (h : MH) (c wp : Addr) (T : List Str) (pv pw : Addr) (k : Nat) (σ : Sl) (hh : MH) : Prop := ∃ (s : St) (j : Nat) (x4 x5 x6 : Option D), IA h c wp T pv pw k s j hh ∧ σ = [some (.ref c), some (.ref pv), some (.ref pw), some (.bool s.rd), x4, x5, x6]
section
variable {h hh h2 : MH} {c wp pv pw : Addr} {T : List Str} {k j j2 : Nat} {s s' : St}
theorem IA.go (A : IA h c wp T pv pw k s j hh) (e : turnT s = .go s') (r : s'.r = T.drop j2) (jl : j2 ≤ T.length) (L : OV (DL.up h c (cM wp j2 false s'.z)) h2 [(pw, .lst (wsD s'.ws)), (pv, .lst (vsD s'.vs))]) : IA h c wp T pv pw (k + 1) s' j2 h2 := by
  obtain ⟨i1, l1⟩ := turn_inv A.inv e
  obtain ⟨n1, n2⟩ := turn_len e
  have := A.ran
  have := A.vl
  have := A.wl
  refine ⟨L, r, jl, i1, by omega, by omega, by omega, A.run.trans ?_⟩
  rw [show T.length + 1 - k = (T.length + 1 - (k + 1)) + 1 by omega]
  conv => lhs; unfold runT
  rw [e]
theorem IA.bad (A : IA h c wp T pv pw k s j hh) (e : turnT s = .bad) : altT T = none := by
  have := A.ran
  unfold altT
  rw [A.run, show T.length + 1 - k = (T.length + 1 - (k + 1)) + 1 by omega]
  unfold runT
  rw [e]
theorem IA.stop (A : IA h c wp T pv pw k s j hh) (e : turnT s = .stop) : altT T = endT s := by
  have := A.ran
  unfold altT
  rw [A.run, show T.length + 1 - k = (T.length + 1 - (k + 1)) + 1 by omega]
  unfold runT
  rw [e]
end
theorem not_b3 {Nx : Nd} {hb : MH} {c pv pw : Addr} {vs : List Cd} {ws : List Wt} {x4 x5 x6 : Option D} {hh : MH} (L : OV hb hh [(pw, .lst (wsD ws)), (pv, .lst (vsD vs))]) (hw : ws.length ≤ 900000) (hv : vs.length ≤ 900000) (ne : vs ≠ [])
    (fin : ∀ (vs' : List Cd) (ws' : List Wt) (x6 : Option D) (h2 : MH), unN vs ws = (vs', ws') → OV hb h2 [(pw, .lst (wsD ws')), (pv, .lst (vsD vs'))] → Nx.nx [some (.ref c), some (.ref pv), some (.ref pw), some (.bool true), x4, x5, x6] h2) :
    rd__law_take_cond_b1_3 sp__law_see sp__law_take_fact sp__law_fold Nx [some (.ref c), some (.ref pv), some (.ref pw), some (.bool true), x4, x5, x6] hh := by
  unfold rd__law_take_cond_b1_3
  walk_at "e0"
  rw [L.get 0 rfl]
  walk_at "e0"
  rw [wsD_len]
  refine ⟨bnd62 (by omega), ?_⟩
  refine ⟨fun i σ h2 => ∃ (vs' : List Cd) (ws' : List Wt) (x6 : Option D), OV hb h2 [(pw, .lst (wsD ws')), (pv, .lst (vsD vs'))] ∧ unN vs' ws' = unN vs ws ∧ vs'.length = vs.length ∧ (topN ws' = false ∨ ws'.length + i = ws.length) ∧ σ = [some (.ref c), some (.ref pv), some (.ref pw), some (.bool true), x4, x5, x6], Lw.of ⟨vs, ws, x6, L, rfl, rfl, .inr rfl, rfl⟩, fun _ _ _ _ => trivial, ?_, ?_⟩
  · rintro i x σ h2 hx ⟨vs', ws', x6, L, eu, el, tn, rfl⟩
    obtain ⟨hi, rfl⟩ := rg_at hx
    walk_at "e0"
    unfold rd__law_take_cond_b3
    walk_at "e0"
    rw [if_pos trivial]
    rw [L.get 0 rfl]
    walk_at "e0"
    rw [wsD_len]
    have stay : topN ws' = false → Lw (fun σ h2 => ∃ (vs' : List Cd) (ws' : List Wt) (x6 : Option D), OV hb h2 [(pw, .lst (wsD ws')), (pv, .lst (vsD vs'))] ∧ unN vs' ws' = unN vs ws ∧ vs'.length = vs.length ∧ (topN ws' = false ∨ ws'.length + (i + 1) = ws.length) ∧ σ = [some (.ref c), some (.ref pv), some (.ref pw), some (.bool true), x4, x5, x6]) [some (.ref c), some (.ref pv), some (.ref pw), some (.bool true), x4, x5, some (.int (i : Nat))] h2 := fun t => Lw.of ⟨vs', ws', _, L, eu, el, .inl t, rfl⟩
    cases ws' with
    | nil =>
      rw [if_neg (by decide), if_neg (by decide), e_next]
      exact stay rfl
    | cons o ws2 =>
      rw [if_pos (by simp; try omega)]
      rw [L.get 0 rfl]
      walk_at "e0"
      rw [atI_neg (x := wtD o) (by rw [wsD_cons]; simp)]
      rw [show wtD o = .str (wtS o) from rfl]
      walk_at "e0"
      cases o with
      | par =>
        rw [if_neg (by decide +kernel), e_next]
        exact stay rfl
      | op o =>
        rw [if_neg (by cases o <;> decide +kernel), e_next]
        exact stay rfl
      | nt =>
        rw [if_pos (by decide +kernel)]
        obtain ⟨v, us, rfl⟩ : ∃ v us, vs' = v :: us := by
          cases vs' with
          | nil => exact (ne (List.length_eq_zero_iff.mp el.symm)).elim
          | cons v us => exact ⟨v, us, rfl⟩
        have hl : (Wt.nt :: ws2).length + i = ws.length := by
          rcases tn with t | t
          · cases t
          · exact t
        rw [L.get 0 rfl]
        refine ⟨trivial, pop_eq (xs := wsD ws2) (y := wtD .nt) (by rw [L.get 0 rfl, wsD_cons]) ?_⟩
        have L2 := L.set 0 rfl (.lst (wsD ws2))
        generalize up h2 pw (.lst (wsD ws2)) = h3 at L2 ⊢
        walk_at "e0"
        rw [L2.get 1 rfl]
        refine ⟨trivial, trivial, pop_eq (xs := vsD us) (y := cdD v) (by rw [L2.get 1 rfl, vsD_cons]) ?_⟩
        have L3 := L2.set 1 rfl (.lst (vsD us))
        generalize up h3 pv (.lst (vsD us)) = h4 at L3 ⊢
        walk_at "e0"
        refine ⟨by show 2 ≤ sizeLine; decide, ?_⟩
        rw [L3.get 1 rfl]
        walk_at "e0"
        simp only [List.length_cons] at el hl
        refine ⟨sl_lt (by rw [vsD_len]; omega), ?_⟩
        have L4 := L3.set 1 rfl (.lst (vsD (.nt v :: us)))
        rw [vsD_cons] at L4
        refine Lw.of ⟨.nt v :: us, ws2, _, by rw [vsD_cons]; exact L4, ?_, by simp; omega, .inr (by omega), rfl⟩
        rw [← eu, unN_nt]
  · rintro σ h2 ⟨vs', ws', x6, L, eu, el, tn, rfl⟩
    rw [rg_len] at tn
    refine fin vs' ws' x6 h2 ?_ L
    rw [← eu]
    refine unN_no ?_ _
    rcases tn with t | t
    · exact t
    · have e : ws' = [] := List.length_eq_zero_iff.mp (by omega)
      rw [e]
      rfl
theorem not_no {Nx : Nd} {hb : MH} {c pv pw : Addr} {vs : List Cd} {ws : List Wt} {x4 x5 x6 : Option D} {hh : MH} (L : OV hb hh [(pw, .lst (wsD ws)), (pv, .lst (vsD vs))]) (hw : ws.length ≤ 900000)
    (fin : ∀ (x6 : Option D) (h2 : MH), OV hb h2 [(pw, .lst (wsD ws)), (pv, .lst (vsD vs))] → Nx.nx [some (.ref c), some (.ref pv), some (.ref pw), some (.bool false), x4, x5, x6] h2) :
    rd__law_take_cond_b1_3 sp__law_see sp__law_take_fact sp__law_fold Nx [some (.ref c), some (.ref pv), some (.ref pw), some (.bool false), x4, x5, x6] hh := by
  unfold rd__law_take_cond_b1_3
  walk_at "e0"
  rw [L.get 0 rfl]
  walk_at "e0"
  rw [wsD_len]
  refine ⟨bnd62 (by omega), ?_⟩
  refine ⟨fun i σ h2 => ∃ (x6 : Option D), OV hb h2 [(pw, .lst (wsD ws)), (pv, .lst (vsD vs))] ∧ σ = [some (.ref c), some (.ref pv), some (.ref pw), some (.bool false), x4, x5, x6], Lw.of ⟨x6, L, rfl⟩, fun _ _ _ _ => trivial, ?_, ?_⟩
  · rintro i x σ h2 hx ⟨x6, L, rfl⟩
    walk_at "e0"
    unfold rd__law_take_cond_b3
    walk_at "e0"
    rw [if_neg (by decide), if_neg (by decide), e_next]
    exact Lw.of ⟨_, L, rfl⟩
  · rintro σ h2 ⟨x6, L, rfl⟩
    exact fin x6 h2 L
theorem alt_bad {Nx : Nd} {Q : KD} {h hh : MH} {c wp : Addr} {T : List Str} {j i0 y0 y : Nat} {x1 x2 x3 x4 x5 x6 : Option D} {ws : List (Addr × MO)} (R : RS h c wp T i0 false y0) (L : OV (up h c (cM wp j true y)) hh ws) (hr : Nx.rt = Lh Q) (q : ∀ (j y : Nat) (d : D), Q d (up h c (cM wp j true y))) : rd__law_take_cond_b1_2 sp__law_see sp__law_take_fact sp__law_fold Nx [some (.ref c), x1, x2, x3, x4, x5, x6] hh := by
  unfold rd__law_take_cond_b1_2
  walk_at "e0"
  rw [rs_at (rs_ov R rfl L)]
  walk_at "e0"
  rw [atI_2]
  walk_at "e0"
  rw [if_pos trivial, hr]
  exact ⟨by show 0 ≤ sizeLine; decide, L.ret (q _ _ _)⟩
/-- a fold of the two lists -/
theorem fold_at {Q : KD} {hb hh : MH} {pv pw : Addr} {vs : List Cd} {ws : List Wt} (P : Bool) (L : OV hb hh [(pw, .lst (wsD ws)), (pv, .lst (vsD vs))]) (ho : ops ws < vs.length) (hv : vs.length ≤ 900000) (hw : ws.length ≤ 900000)
    (q : ∀ h2, OV hb h2 [(pw, .lst (wsD (foldT P vs ws).2)), (pv, .lst (vsD (foldT P vs ws).1))] → Q .none h2) : ∀ pl, hh pl = none → sp__law_fold [.ref pv, .ref pw, .ref pl] (up hh pl (.lst (plD P))) Q := fun pl np => by
  have L3 := L.new np (.lst (plD P))
  have nd := L3.nd
  simp only [List.map_cons, List.map_nil, List.nodup_cons, List.mem_cons, List.not_mem_nil, or_false, not_or, not_false_eq_true, true_and] at nd
  refine ⟨pv, pw, pl, P, vs, ws, rfl, L3.get 2 rfl, L3.get 1 rfl, L3.get 0 rfl, fun z => nd.2.1 z.symm, nd.1.2, nd.1.1, ho, hv, hw, q _ ?_⟩
  exact ((L3.set 2 rfl _).set 1 rfl _).tl
theorem in_ws {ws : List Wt} {k : Bool → Prop} (q : k (decide (.par ∈ ws))) : inSeq (.str (Str.ofString "(")) k (wsD ws) := by
  have e : wsD ws = (ws.reverse.map wtS).map D.str := by
    unfold wsD
    rw [List.map_map]
    rfl
  rw [e]
  refine in_txt ?_
  have e2 : ((ws.reverse.map wtS).any fun z => decide (z = Str.ofString "(")) = decide (.par ∈ ws) := by
    rw [Bool.eq_iff_iff, List.any_eq_true, decide_eq_true_eq]
    constructor
    · rintro ⟨x, hx, e⟩
      obtain ⟨o, ho, rfl⟩ := List.mem_map.mp hx
      have e := of_decide_eq_true e
      cases o with
      | par => exact List.mem_reverse.mp ho
      | nt => exact absurd e (by decide +kernel)
      | op o => cases o <;> exact absurd e (by decide +kernel)
    · intro hm
      exact ⟨wtS .par, List.mem_map.mpr ⟨.par, List.mem_reverse.mpr hm, rfl⟩, by decide +kernel⟩
  rw [e2]
  exact q
theorem alt_turn {Nx : Nd} {Q : KD} {h hh : MH} {c wp pv pw : Addr} {T : List Str} {k j i0 y0 : Nat} {s : St} {x4 x5 x6 : Option D} (R : RS h c wp T i0 false y0) (hT : T.length ≤ 100000) (A : IA h c wp T pv pw k s j hh) (hn : Nx.nx = Lw (IL h c wp T pv pw (k + 1))) (hr : Nx.rt = Lh Q)
    (qb : altT T = none → ∀ (j y : Nat) (d : D), Q d (up h c (cM wp j true y))) (hb : turnT s = .stop → ∀ (x5 : Option D) (h2 : MH), IA h c wp T pv pw k s j h2 → Nx.bk [some (.ref c), some (.ref pv), some (.ref pw), some (.bool s.rd), x4, x5, x6] h2) :
    rd__law_take_cond_b1 sp__law_see sp__law_take_fact sp__law_fold Nx [some (.ref c), some (.ref pv), some (.ref pw), some (.bool s.rd), x4, x5, x6] hh := by
  unfold rd__law_take_cond_b1
  walk_at "e0"
  refine ⟨c, wp, T, j, false, s.z, rfl, rs_ov R rfl A.L, ?_⟩
  have hk : k ≤ 200000 := by have := A.ran; omega
  -- behind the ifs: ready, the not's are taken off
  have goY := fun {vs0 : List Cd} {ws0 : List Wt} {j2 z2 : Nat} {h2 : MH} {y5 y6 : Option D} (e : turnT s = .go ⟨T.drop j2, true, (unN vs0 ws0).1, (unN vs0 ws0).2, z2⟩) (jl : j2 ≤ T.length) (ne : vs0 ≠ []) (lv : vs0.length ≤ 900000) (lw : ws0.length ≤ 900000) (L : OV (up h c (cM wp j2 false z2)) h2 [(pw, .lst (wsD ws0)), (pv, .lst (vsD vs0))]) => (by
    unfold rd__law_take_cond_b1_2
    walk_at "e0"
    rw [rs_at (rs_ov R rfl L)]
    walk_at "e0"
    rw [atI_2]
    walk_at "e0"
    rw [if_neg (by decide), e_next]
    refine not_b3 L lw lv ne fun vs' ws' x6 h3 eu L3 => ?_
    have AA := fun L => A.go e (j2 := j2) rfl jl (h2 := h3) L
    rw [eu] at AA
    rw [hn]
    exact Lw.of ⟨_, _, _, _, _, AA L3, rfl⟩ : rd__law_take_cond_b1_2 sp__law_see sp__law_take_fact sp__law_fold Nx [some (.ref c), some (.ref pv), some (.ref pw), some (.bool true), x4, y5, y6] h2)
  have goN := fun {vs0 : List Cd} {ws0 : List Wt} {j2 z2 : Nat} {h2 : MH} {y5 y6 : Option D} (e : turnT s = .go ⟨T.drop j2, false, vs0, ws0, z2⟩) (jl : j2 ≤ T.length) (lw : ws0.length ≤ 900000) (L : OV (up h c (cM wp j2 false z2)) h2 [(pw, .lst (wsD ws0)), (pv, .lst (vsD vs0))]) => (by
    unfold rd__law_take_cond_b1_2
    walk_at "e0"
    rw [rs_at (rs_ov R rfl L)]
    walk_at "e0"
    rw [atI_2]
    walk_at "e0"
    rw [if_neg (by decide), e_next]
    refine not_no L lw fun x6 h3 L3 => ?_
    rw [hn]
    exact Lw.of ⟨_, _, _, _, _, A.go e (j2 := j2) rfl jl L3, rfl⟩ : rd__law_take_cond_b1_2 sp__law_see sp__law_take_fact sp__law_fold Nx [some (.ref c), some (.ref pv), some (.ref pw), some (.bool false), x4, y5, y6] h2)
  have bad := fun {j2 y2 : Nat} {h2 : MH} {x1 x2 x3 x5 x6 : Option D} {ws : List (Addr × MO)} (e : turnT s = .bad) (L : OV (up h c (cM wp j2 true y2)) h2 ws) => alt_bad (x1 := x1) (x2 := x2) (x3 := x3) (x4 := x4) (x5 := x5) (x6 := x6) R L hr (qb (A.bad e))
  obtain ⟨r, rd, vs, ws, z⟩ := s
  have er : r = T.drop j := A.r
  subst er
  have L := A.L
  have hvl : vs.length ≤ k := A.vl
  have hwl : ws.length ≤ k := A.wl
  dsimp only at L bad ⊢
  unfold rd__law_take_cond_b1_1
  rw [e_seq, e_ifS]
  cases rd with
  | false =>
    rw [turn_eqN, tail_drop] at goN goY bad
    walk_at "e0"
    rw [if_pos (by decide)]
    refine ⟨by show 2 ≤ sizeLine; decide, fun p1 np1 => ?_⟩
    have L1 := (L.new np1 (.lst [.str (Str.ofString "("), .str (Str.ofString "not")])).tl
    rw [up_same, v_inO]
    generalize up hh p1 _ = h1 at L1 ⊢
    refine in_txt (zs := [Str.ofString "(", Str.ofString "not"]) ?_
    have an : ([Str.ofString "(", Str.ofString "not"].any fun x => decide (x = seeT (T.drop j))) = true ↔ seeT (T.drop j) = tk "(" ∨ seeT (T.drop j) = tk "not" := or_any2 (Str.ofString "(") (Str.ofString "not") _
    by_cases hit : seeT (T.drop j) = tk "(" ∨ seeT (T.drop j) = tk "not"
    · rw [if_pos (an.mpr hit)]
      have hj : j < T.length := by
        rcases hit with e | e
        · exact lt_of_see e (by decide +kernel)
        · exact lt_of_see e (by decide +kernel)
      rw [L1.get 0 rfl]
      walk_at "e0"
      refine ⟨trivial, sl_lt (by rw [wsD_len]; omega), ?_⟩
      have L2 := L1.set 0 rfl (.lst (wsD ws ++ [.str (seeT (T.drop j))]))
      generalize up h1 pw (.lst (wsD ws ++ [.str (seeT (T.drop j))])) = h2 at L2 ⊢
      rw [rs_at (rs_ov R rfl L2)]
      walk_at "e0"
      rw [atI_1]
      walk_at "e0"
      rw [rs_at (rs_ov R rfl L2)]
      walk_at "e0"
      simp only [List.length_cons, List.length_nil, Nat.reduceAdd, show ixN 4 1 = some 1 from by decide, v_setK, List.set_cons_succ, List.set_cons_zero]
      have L3 := ov_rd L2 (j + 1) false z
      rcases hit with e | e
      · rw [if_pos e] at goN
        refine goN rfl hj (by simp; omega) ?_
        rw [wsD_cons, show wtD .par = .str (seeT (T.drop j)) by rw [e]; rfl]
        exact L3
      · rw [if_neg (by rw [e]; decide +kernel), if_pos e] at goN
        refine goN rfl hj (by simp; omega) ?_
        rw [wsD_cons, show wtD .nt = .str (seeT (T.drop j)) by rw [e]; rfl]
        exact L3
    · rw [if_neg (fun w => hit (an.mp w))]
      rw [if_neg (fun w => hit (.inl w)), if_neg (fun w => hit (.inr w))] at goY bad
      rw [if_pos (by decide)]
      rw [L1.get 1 rfl]
      refine ⟨trivial, c, wp, T, j, z, rfl, rs_ov R rfl L1, ?_⟩
      cases ts : takeF (T.drop j) with
      | none =>
        rw [ts] at bad
        intro j2 y2 d
        have L2 := ov_rd L1 j2 true y2
        generalize up h1 c (cM wp j2 true y2) = h3 at L2 ⊢
        rw [L2.get 1 rfl]
        walk_at "e0"
        refine ⟨sl_lt (by rw [vsD_len]; omega), ?_⟩
        exact bad rfl (L2.set 1 rfl _)
      | some p =>
        obtain ⟨w, r', dz⟩ := p
        rw [ts] at goY
        intro j2 hj2 e2
        have e2 : T.drop j2 = r' := e2
        subst e2
        have L2 := ov_rd L1 j2 false (z + dz)
        generalize ey : up h1 c (cM wp j2 false (z + (cd1 (w, T.drop j2, dz)).2.2)) = h3
        have ey : up h1 c (cM wp j2 false (z + dz)) = h3 := ey
        rw [ey] at L2
        rw [L2.get 1 rfl]
        walk_at "e0"
        refine ⟨sl_lt (by rw [vsD_len]; omega), ?_⟩
        refine goY (vs0 := w :: vs) (ws0 := ws) rfl hj2 (by simp) (by simp; omega) (by omega) ?_
        have L3 := L2.set 1 rfl (.lst (vsD (w :: vs)))
        rw [vsD_cons] at L3 ⊢
        exact L3
  | true =>
    obtain ⟨cc, Rd, hcc⟩ := A.inv.yes rfl
    have hops : ops ws < vs.length := Rdy_ops Rd
    rw [turn_eqY, tail_drop] at goN goY hb
    walk_at "e0"
    rw [if_neg (by decide), if_neg (by decide), if_neg (by decide)]
    refine ⟨by show 2 ≤ sizeLine; decide, fun p1 np1 => ?_⟩
    have L1 := (L.new np1 (.lst [.str (Str.ofString "and"), .str (Str.ofString "or")])).tl
    rw [up_same, v_inO]
    generalize up hh p1 _ = h1 at L1 ⊢
    refine in_txt (zs := [Str.ofString "and", Str.ofString "or"]) ?_
    have an : ([Str.ofString "and", Str.ofString "or"].any fun x => decide (x = seeT (T.drop j))) = true ↔ seeT (T.drop j) = tk "and" ∨ seeT (T.drop j) = tk "or" := or_any2 (Str.ofString "and") (Str.ofString "or") _
    by_cases hit : seeT (T.drop j) = tk "and" ∨ seeT (T.drop j) = tk "or"
    · rw [if_pos (an.mpr hit)]
      have hj : j < T.length := by
        rcases hit with e | e
        · exact lt_of_see e (by decide +kernel)
        · exact lt_of_see e (by decide +kernel)
      unfold rd__law_take_cond_b2
      walk_at "e0"
      have tail : ∀ (P : Bool) (o : Bool) (h2 : MH), opS o = seeT (T.drop j) → turnT ⟨T.drop j, true, vs, ws, z⟩ = .go ⟨T.drop (j + 1), false, (foldT P vs ws).1, .op o :: (foldT P vs ws).2, z⟩ → OV (up h c (cM wp j false z)) h2 [(pw, .lst (wsD (foldT P vs ws).2)), (pv, .lst (vsD (foldT P vs ws).1))] → rd__law_take_cond_b2_1 sp__law_see sp__law_take_fact sp__law_fold { nx := rd__law_take_cond_b1_2 sp__law_see sp__law_take_fact sp__law_fold Nx, rt := Nx.rt, bk := Nx.bk, ct := Nx.ct } [some (.ref c), some (.ref pv), some (.ref pw), some (.bool true), x4, some (.str (seeT (T.drop j))), x6] h2 := fun P o h2 eo et L2 => by
        have fl := foldT_len P ws vs
        rw [turn_eqY, tail_drop] at et
        generalize foldT P vs ws = F at et fl L2
        unfold rd__law_take_cond_b2_1
        walk_at "e0"
        rw [L2.get 0 rfl]
        walk_at "e0"
        refine ⟨trivial, sl_lt (by rw [wsD_len]; omega), ?_⟩
        have L3 := L2.set 0 rfl (.lst (wsD F.2 ++ [.str (seeT (T.drop j))]))
        generalize up h2 pw (.lst (wsD F.2 ++ [.str (seeT (T.drop j))])) = h3 at L3 ⊢
        unfold rd__law_take_cond_b2_2
        walk_at "e0"
        rw [rs_at (rs_ov R rfl L3)]
        walk_at "e0"
        rw [atI_1]
        walk_at "e0"
        rw [rs_at (rs_ov R rfl L3)]
        walk_at "e0"
        simp only [List.length_cons, List.length_nil, Nat.reduceAdd, show ixN 4 1 = some 1 from by decide, v_setK, List.set_cons_succ, List.set_cons_zero]
        have L4 := ov_rd L3 (j + 1) false z
        unfold rd__law_take_cond_b2_3
        walk_at "e0"
        refine goN (vs0 := F.1) (ws0 := .op o :: F.2) et hj (by simp; omega) ?_
        rw [wsD_cons, show wtD (.op o) = .str (seeT (T.drop j)) by rw [← eo]; rfl]
        exact L4
      by_cases ea : seeT (T.drop j) = tk "and"
      · rw [if_pos (show decide (seeT (T.drop j) = Str.ofString "and") = true from decide_eq_true ea)]
        refine ⟨by decide, fold_at false L1 hops (by omega) (by omega) fun h2 L2 => ?_⟩
        refine tail false true h2 ea.symm ?_ L2
        rw [turn_eqY, if_pos ea, tail_drop]
      · have eo : seeT (T.drop j) = tk "or" := hit.elim (fun w => (ea w).elim) id
        rw [if_neg (show ¬ decide (seeT (T.drop j) = Str.ofString "and") = true from fun w => ea (of_decide_eq_true w))]
        refine ⟨by decide, fold_at true L1 hops (by omega) (by omega) fun h2 L2 => ?_⟩
        refine tail true false h2 eo.symm ?_ L2
        rw [turn_eqY, if_neg ea, if_pos eo, tail_drop]
    · rw [if_neg (fun w => hit (an.mp w))]
      rw [if_neg (fun w => hit (.inl w)), if_neg (fun w => hit (.inr w))] at goY hb
      by_cases z9 : seeT (T.drop j) = tk ")"
      · have hj := lt_of_see z9 (by decide +kernel)
        rw [if_pos (show decide (seeT (T.drop j) = Str.ofString ")") = true from decide_eq_true z9)]
        rw [L1.get 0 rfl, v_inO]
        refine in_ws ?_
        by_cases nm : .par ∈ ws
        · rw [if_pos ⟨z9, nm⟩] at goY
          rw [decide_eq_true nm, if_pos rfl]
          refine ⟨by decide, fold_at true L1 hops (by omega) (by omega) fun h3 L3 => ?_⟩
          have fm := fold_mem (P := true) (vs := vs) nm
          have fl := foldT_len true ws vs
          obtain ⟨x, us, m9, e9, N9, _⟩ := fold_all Rd
          generalize ef : foldT true vs ws = F at goY fl L3 fm e9 N9
          obtain ⟨w2, ew2⟩ : ∃ w2, F.2 = .par :: w2 := by
            obtain ⟨F1, F2⟩ := F
            dsimp only at N9 fm
            cases N9 with
            | nil => cases fm
            | par _ => exact ⟨_, rfl⟩
          have nf : F.1 ≠ [] := by rw [e9]; simp
          rw [L3.get 0 rfl]
          refine ⟨trivial, pop_eq (xs := wsD w2) (y := wtD .par) (by rw [L3.get 0 rfl, ew2, wsD_cons]) ?_⟩
          have L4 := L3.set 0 rfl (.lst (wsD w2))
          generalize up h3 pw (.lst (wsD w2)) = h4 at L4 ⊢
          rw [rs_at (rs_ov R rfl L4)]
          walk_at "e0"
          rw [atI_1]
          walk_at "e0"
          rw [rs_at (rs_ov R rfl L4)]
          walk_at "e0"
          simp only [List.length_cons, List.length_nil, Nat.reduceAdd, show ixN 4 1 = some 1 from by decide, v_setK, List.set_cons_succ, List.set_cons_zero]
          have L5 := ov_rd L4 (j + 1) false z
          rw [ew2] at fl goY
          simp only [List.length_cons] at fl
          exact goY (vs0 := F.1) (ws0 := w2) rfl hj nf (by omega) (by omega) L5
        · rw [if_neg (fun w => nm w.2)] at hb
          rw [decide_eq_false nm, if_neg (by decide)]
          exact hb rfl _ _ ⟨L1, rfl, A.jl, A.inv, A.ran, A.vl, A.wl, A.run⟩
      · rw [if_neg (fun w => z9 w.1)] at hb
        rw [if_neg (show ¬ decide (seeT (T.drop j) = Str.ofString ")") = true from fun w => z9 (of_decide_eq_true w)), if_neg (by decide)]
        exact hb rfl _ _ ⟨L1, rfl, A.jl, A.inv, A.ran, A.vl, A.wl, A.run⟩
/-- behind the loop -/
theorem alt_end {Q : KD} {h hh : MH} {c wp pv pw : Addr} {T : List Str} {k j i0 : Nat} {s : St} {x4 x5 x6 : Option D} (R : RS h c wp T i0 false 0) (hT : T.length ≤ 100000) (A : IA h c wp T pv pw k s j hh) (st : turnT s = .stop) (q : Left c wp T 0 Q h ((altT T).map cd1)) :
    rd__law_take_cond_4 sp__law_see sp__law_take_fact sp__law_fold (endN Q) [some (.ref c), some (.ref pv), some (.ref pw), some (.bool s.rd), x4, x5, x6] hh := by
  have hk : k ≤ 200000 := by have := A.ran; omega
  have hvl := A.vl
  have hwl := A.wl
  obtain ⟨cc, Rd, hcc⟩ := A.inv.yes (stop_rd st)
  have hops : ops s.ws < s.vs.length := Rdy_ops Rd
  rw [A.stop st] at q
  unfold endT at q
  unfold rd__law_take_cond_4
  walk_at "e0"
  rw [A.L.get 0 rfl, v_inO]
  refine in_ws ?_
  by_cases nm : .par ∈ s.ws
  · rw [if_pos nm] at q
    have q : ∀ (j y : Nat) (d : D), Q d (up h c (cM wp j true y)) := q
    rw [decide_eq_true nm, if_pos rfl]
    rw [rs_at (rs_ov R rfl A.L)]
    walk_at "e0"
    simp only [List.length_cons, List.length_nil, Nat.reduceAdd, show ixN 4 2 = some 2 from by decide, v_setK, List.set_cons_succ, List.set_cons_zero]
    have L2 := ov_rd A.L j true s.z
    exact ⟨by show 0 ≤ sizeLine; decide, L2.ret (q _ _ _)⟩
  · rw [if_neg nm] at q
    rw [decide_eq_false nm, if_neg (by decide), e_next]
    unfold rd__law_take_cond_5
    walk_at "e0"
    refine ⟨by decide, fold_at true A.L hops (by omega) (by omega) fun h3 L3 => ?_⟩
    have fm := fun z => nm (fold_mem' (P := true) (ws := s.ws) (vs := s.vs) z)
    obtain ⟨x, us, m9, e9, N9, _⟩ := fold_all Rd
    generalize ef : foldT true s.vs s.ws = F at q L3 fm e9 N9
    obtain ⟨F1, F2⟩ := F
    dsimp only at N9 fm e9 q L3
    cases e9
    cases N9 with
    | par _ => exact (fm (by simp)).elim
    | nil =>
      unfold rd__law_take_cond_6
      walk_at "e0"
      rw [L3.get 1 rfl]
      walk_at "e0"
      rw [show atI (vsD [x]) 0 = some (cdD x) from rfl]
      walk_at "e0"
      have qq := q j A.jl A.r.symm
      have qq : Q (cdD x) (up h c (cM wp j false (0 + s.z))) := qq
      rw [Nat.zero_add] at qq
      exact L3.ret qq
def sp__law_take_cond : P1 := fun ds h Q => ∃ c wp T, ds = [.ref c] ∧ RS h c wp T 0 false 0 ∧ T.length ≤ 100000 ∧ Left c wp T 0 Q h ((altT T).map cd1)
theorem len__law_take_cond : ∀ ds h Q, sp__law_take_cond ds h Q → ds.length = 1 := fun ds h Q ⟨_, _, _, e, _⟩ => by rw [e]; rfl
theorem sat__law_take_cond : ∀ ds h Q, sp__law_take_cond ds h Q → rd__law_take_cond sp__law_see sp__law_take_fact sp__law_fold (endN Q) (startD 7 ds) h := by
  rintro ds h Q ⟨c, wp, T, rfl, R, hT, q⟩
  show rd__law_take_cond sp__law_see sp__law_take_fact sp__law_fold (endN Q) [some (.ref c), none, none, none, none, none, none] h
  unfold rd__law_take_cond
  walk_at "e0"
  refine ⟨by decide, ?_⟩
  intro pv nv
  generalize ev : up _ pv _ = h1
  have hb : up h c (cM wp 0 false 0) = h := up_id R.at_
  have L1 := (OV.start.newE nv ev).cast2 hb.symm
  unfold rd__law_take_cond_1
  walk_at "e0"
  refine ⟨by decide, ?_⟩
  intro pw nw
  generalize ew : up _ pw _ = h2
  have L2 := L1.newE nw ew
  unfold rd__law_take_cond_2
  walk_at "e0"
  unfold rd__law_take_cond_3
  walk_at "e0"
  rw [rs_at (rs_ov R rfl L2)]
  walk_at "e0"
  rw [atI_z]
  walk_at "e0"
  rw [(rs_ov R rfl L2).ws]
  walk_at "e0"
  rw [List.length_map]
  refine ⟨by omega, ?_⟩
  rw [show ((T.length : Int) + 1) = ((T.length + 1 : Nat) : Int) by omega]
  have L2 : OV (up h c (cM wp 0 false 0)) h2 [(pw, .lst (wsD [])), (pv, .lst (vsD []))] := L2
  refine ⟨IL h c wp T pv pw, ?_, fun _ _ _ _ => trivial, ?_, ?_⟩
  · exact Lw.of ⟨⟨T, false, [], [], 0⟩, 0, none, none, none, ⟨L2, rfl, Nat.zero_le _, inv_0 T, by show T.length + 0 ≤ _; omega, Nat.le_refl _, Nat.le_refl _, rfl⟩, rfl⟩
  · rintro k x σ hh hx ⟨s, j, x4, x5, x6, A, rfl⟩
    walk_at "e0"
    refine alt_turn (Q := Q) R hT A rfl rfl (fun e => ?_) (fun st y5 h3 A3 => ?_)
    · rw [e] at q; exact q
    · exact alt_end R hT A3 st q
  · rintro σ hh ⟨s, j, x4, x5, x6, A, rfl⟩
    exfalso
    have := A.ran
    rw [rg_len] at this
    omega
def sp__law_whole : P1 := fun ds h Q => ∃ wp T, ds = [.ref wp] ∧ h wp = some (.lst (T.map D.str)) ∧ T.length ≤ 100000 ∧ Q (match wholeT T with
  | some w => cdD w
  | none => .none) h
theorem len__law_whole : ∀ ds h Q, sp__law_whole ds h Q → ds.length = 1 := fun ds h Q ⟨_, _, e, _⟩ => by rw [e]; rfl
theorem sat__law_whole : ∀ ds h Q, sp__law_whole ds h Q → rd__law_whole sp__law_take_cond (endN Q) (startD 3 ds) h := by
  rintro ds h Q ⟨wp, T, rfl, ew, hT, q⟩
  show rd__law_whole sp__law_take_cond (endN Q) [some (.ref wp), none, none] h
  unfold rd__law_whole
  walk_at "e0"
  refine ⟨by show 4 ≤ sizeLine; decide, ?_⟩
  intro c nc
  generalize ec : up _ c _ = h1
  have wc : wp ≠ c := fun z => by rw [z, nc] at ew; cases ew
  have R : RS h1 c wp T 0 false 0 := by
    rw [← ec]
    exact ⟨up_same, by rw [up_ne wc]; exact ew, wc⟩
  unfold rd__law_whole_1
  walk_at "e0"
  refine ⟨c, wp, T, rfl, R, hT, ?_⟩
  have fin : ∀ (j : Nat) (b : Bool) (y : Nat), DL.le h (up h1 c (cM wp j b y)) := fun j b y => by
    rw [← ec, up_up]
    exact le.up nc
  unfold wholeT at q
  cases ea : altT T with
  | none =>
    rw [ea] at q
    intro j y d
    unfold rd__law_whole_2
    walk_at "e0"
    rw [show up h1 c (cM wp j true y) c = some (.lst [.ref wp, .int j, .bool true, .int y]) from up_same]
    walk_at "e0"
    rw [atI_2]
    walk_at "e0"
    rw [if_pos trivial]
    exact lh_le (fin j true y) q
  | some p =>
    obtain ⟨w, r, z⟩ := p
    rw [ea] at q
    intro j hj ej
    have ej : T.drop j = r := ej
    show rd__law_whole_2 sp__law_take_cond (endN Q) [some (.ref wp), some (.ref c), some (cdD w)] (up h1 c (cM wp j false (0 + z)))
    rw [Nat.zero_add]
    unfold rd__law_whole_2
    walk_at "e0"
    have ec : up h1 c (cM wp j false z) c = some (.lst [.ref wp, .int j, .bool false, .int z]) := up_same
    rw [ec]
    walk_at "e0"
    rw [atI_2]
    walk_at "e0"
    rw [if_neg (by decide)]
    rw [ec]
    walk_at "e0"
    rw [atI_1]
    walk_at "e0"
    rw [(R.up j false z).ws]
    walk_at "e0"
    rw [List.length_map]
    by_cases jl : j < T.length
    · rw [if_pos (by simp; omega), if_pos trivial]
      have ne : r ≠ [] := fun z => by
        rw [z] at ej
        have := congrArg List.length ej
        rw [List.length_drop] at this
        simp at this
        omega
      cases r with
      | nil => exact (ne rfl).elim
      | cons _ _ => exact lh_le (fin j false z) q
    · rw [if_neg (by simp; omega)]
      have e0 : r = [] := by rw [← ej]; exact List.drop_eq_nil_of_le (by omega)
      subst e0
      rw [ec]
      walk_at "e0"
      rw [atI_3]
      walk_at "e0"
      cases z with
      | zero =>
        rw [if_neg (by decide)]
        exact lh_le (fin j false 0) q
      | succ z =>
        rw [if_pos (by simp; try omega)]
        exact lh_le (fin j false (z + 1)) q
end
section
/-! the same, of any depth -/
mutual
/-- equal, with the same types all through -/
def sameB : D → D → Bool
  | x, .tup ys => match x with
    | .tup xs => sameBs xs ys
    | _ => false
  | x, .none => isNone x
  | x, .str z => match x with
    | .str w => decide (w = z)
    | _ => false
  | x, .int j => match x with
    | .int i => decide (i = j)
    | _ => false
  | x, .bool c => match x with
    | .bool b => decide (b = c)
    | _ => false
  | _, _ => false
def sameBs : List D → List D → Bool
  | [], [] => true
  | x :: xs, y :: ys => sameB x y && sameBs xs ys
  | _, _ => false
end
theorem sameBs_len : ∀ {xs ys : List D}, xs.length ≠ ys.length → sameBs xs ys = false
  | [], [], h => absurd rfl h
  | x :: xs, y :: ys, h => by
    have : sameBs xs ys = false := sameBs_len fun e => h (by rw [List.length_cons, List.length_cons, e])
    simp [sameBs, this]
  | [], y :: ys, _ => by simp [sameBs]
  | x :: xs, [], _ => by simp [sameBs]
theorem sameBs_all : ∀ {xs ys : List D}, xs.length = ys.length → sameBs xs ys = (List.range ys.length).all fun k => sameB (xs.getD k .none) (ys.getD k .none)
  | [], [], h => by simp [sameBs]
  | x :: xs, y :: ys, h => by
    have ih := sameBs_all (xs := xs) (ys := ys) (by simpa using h)
    rw [List.length_cons, List.range_succ_eq_map, List.all_cons, List.all_map]
    simp only [sameBs, ih]; rfl
  | [], y :: ys, h => by simp at h
  | x :: xs, [], h => by simp at h
mutual
/-- no list within, no tuple too long -/
def okY : D → Bool
  | .tup ds => decide (ds.length ≤ 100000) && okYs ds
  | .none => true
  | .bool _ => true
  | .int _ => true
  | .str _ => true
  | _ => false
def okYs : List D → Bool
  | [] => true
  | d :: ds => okY d && okYs ds
end
theorem okYs_mem : ∀ {ds : List D}, okYs ds = true → ∀ {x : D}, x ∈ ds → okY x = true
  | [], _, x, h => by simp at h
  | d :: ds, p, x, h => by
    have p' : okY d = true ∧ okYs ds = true := by simpa [okYs] using p
    rcases List.mem_cons.mp h with rfl | h
    · exact p'.1
    · exact okYs_mem p'.2 h
theorem okYs_of : ∀ {ds : List D}, (∀ x ∈ ds, okY x = true) → okYs ds = true
  | [], _ => by simp [okYs]
  | d :: ds, h => by simp only [okYs, h d (by simp), okYs_of (ds := ds) fun x hx => h x (by simp [hx])]; rfl
mutual
/-- data without places -/
def plB : D → Bool
  | .tup ds => plBs ds
  | .none => true
  | .bool _ => true
  | .int _ => true
  | .str _ => true
  | _ => false
def plBs : List D → Bool
  | [] => true
  | d :: ds => plB d && plBs ds
end
theorem plBs_mem : ∀ {ds : List D}, plBs ds = true → ∀ {x : D}, x ∈ ds → plB x = true
  | [], _, x, h => by simp at h
  | d :: ds, p, x, h => by
    have p' : plB d = true ∧ plBs ds = true := by simpa [plBs] using p
    rcases List.mem_cons.mp h with rfl | h
    · exact p'.1
    · exact plBs_mem p'.2 h
theorem plBs_of : ∀ {ds : List D}, (∀ x ∈ ds, plB x = true) → plBs ds = true
  | [], _ => by simp [plBs]
  | d :: ds, h => by simp only [plBs, h d (by simp), plBs_of (ds := ds) fun x hx => h x (by simp [hx])]; rfl
theorem ty_pl {x : D} (p : plB x = true) (h : MH) : tyN h x = some (tyP x) := by
  cases x with
  | ref _ => simp [plB] at p
  | ty _ => simp [plB] at p
  | rol _ => simp [plB] at p
  | _ => rfl
theorem isi_pl {x : D} (p : plB x = true) {n : String} {b : Bool} (k : kitB (tyP x) n = some b) {h : MH} {Q : KD} : isiD x (.ty n) h Q = Q (.bool b) h := isi_eval (ty_pl p h) k
def isIntB : D → Bool
  | .int _ => true
  | _ => false
def sp__law_is_int : P1 := fun ds h Q => ∃ x : D, ds = [x] ∧ plB x = true ∧ Q (.bool (isIntB x)) h
theorem len__law_is_int : ∀ ds h Q, sp__law_is_int ds h Q → ds.length = 1 := fun ds h Q ⟨_, e, _⟩ => by rw [e]; rfl
theorem sat__law_is_int : ∀ ds h Q, sp__law_is_int ds h Q → rd__law_is_int (endN Q) (startD 1 ds) h := by
  rintro ds h Q ⟨x, rfl, p, q⟩
  show rd__law_is_int (endN Q) [some x] h
  unfold rd__law_is_int
  walk_at "ev"
  have fin : ∀ b1 b2 : Bool, kitB (tyP x) "int" = some b1 → kitB (tyP x) "bool" = some b2 → (b1 && !b2) = isIntB x → isiD x (.ty "int") h (asB fun c h1 => if c = true then isiD x (.ty "bool") h1 (asB fun c h1 => (endN Q).rt (.bool (!c)) h1) else (endN Q).rt (.bool false) h1) := fun b1 b2 k1 k2 e => by
    rw [isi_pl p k1]
    cases b1 with
    | false =>
      have e : false = isIntB x := e
      rw [← e] at q
      rw [e_asB, if_neg (by decide)]
      exact lh_of q
    | true =>
      have e : (!b2) = isIntB x := e
      rw [← e] at q
      rw [e_asB, if_pos rfl, isi_pl p k2]
      exact lh_of q
  cases x with
  | none => exact fin false false (show kitB "NoneType" "int" = some false by decide) (show kitB "NoneType" "bool" = some false by decide) rfl
  | bool b => exact fin true true (show kitB "bool" "int" = some true by decide) (show kitB "bool" "bool" = some true by decide) rfl
  | int b => exact fin true false (show kitB "int" "int" = some true by decide) (show kitB "int" "bool" = some false by decide) rfl
  | str b => exact fin false false (show kitB "str" "int" = some false by decide) (show kitB "str" "bool" = some false by decide) rfl
  | tup b => exact fin false false (show kitB "tuple" "int" = some false by decide) (show kitB "tuple" "bool" = some false by decide) rfl
  | rol b => simp [plB] at p
  | ref b => simp [plB] at p
  | ty b => simp [plB] at p
theorem v_eqBB {b c : Bool} {h : MH} {Q : KD} : eqD (.bool b) (.bool c) h Q = Q (.bool (decide (b = c))) h := by cases b <;> cases c <;> rfl
def sp__law_same : Nat → P1
  | 0 => fun _ _ _ => False
  | n + 1 => fun ds h Q => ∃ x y, ds = [x, y] ∧ plB x = true ∧ pure? n y = true ∧ okY y = true ∧ Q (.bool (sameB x y)) h
theorem len__law_same : ∀ n ds h Q, sp__law_same n ds h Q → ds.length = 2
  | 0, _, _, _, z => z.elim
  | n + 1, ds, h, Q, ⟨x, y, e, _⟩ => by rw [e]; rfl
theorem sat__law_same : ∀ n ds h Q, sp__law_same (n + 1) ds h Q → rd__law_same (sp__law_same n) sp__law_is_int (endN Q) (startD 3 ds) h := by
  rintro n ds h Q ⟨x, y, rfl, px, py, oy, q⟩
  show rd__law_same (sp__law_same n) sp__law_is_int (endN Q) [some x, some y, none] h
  have q' := lh_of q
  have tx := ty_pl px h
  unfold rd__law_same
  walk_at "e0"
  cases y with
  | none =>
    rw [isi_eval (t := "NoneType") (n := "tuple") (b := false) rfl (by decide)]
    walk_at "e0"
    rw [if_neg Bool.false_ne_true, e_next]
    unfold rd__law_same_1
    walk_at "e0"
    rw [if_pos (show isNone D.none = true from rfl)]
    have e : sameB x .none = isNone x := by simp [sameB]
    rw [e] at q'
    exact q'
  | str z =>
    rw [isi_eval (t := "str") (n := "tuple") (b := false) rfl (by decide)]
    walk_at "e0"
    rw [if_neg Bool.false_ne_true, e_next]
    unfold rd__law_same_1
    walk_at "e0"
    rw [if_neg (show ¬ isNone (D.str z) = true from Bool.false_ne_true), e_next]
    unfold rd__law_same_2
    walk_at "e0"
    rw [isi_eval (t := "str") (n := "bool") (b := false) rfl (by decide)]
    walk_at "e0"
    rw [if_neg Bool.false_ne_true, e_next]
    unfold rd__law_same_3
    walk_at "e0"
    rw [isi_eval (t := "str") (n := "int") (b := false) rfl (by decide)]
    walk_at "e0"
    rw [if_neg Bool.false_ne_true, e_next]
    unfold rd__law_same_4
    walk_at "e0"
    have no : sameB x (.str z) = false → kitB (tyP x) "str" = some false → Lh Q (.bool false) h := fun e _ => by rw [e] at q'; exact q'
    cases x with
    | str w =>
      rw [isi_eval (t := "str") (n := "str") (b := true) rfl (by decide)]
      walk_at "e0"
      have e : sameB (.str w) (.str z) = decide (w = z) := by simp [sameB]
      rw [e] at q'
      exact q'
    | ref _ => simp [plB] at px
    | ty _ => simp [plB] at px
    | rol _ => simp [plB] at px
    | _ =>
      rw [isi_eval tx (b := false) (by rfl)]
      walk_at "e0"
      exact no (by simp [sameB]) (by rfl)
  | int z =>
    rw [isi_eval (t := "int") (n := "tuple") (b := false) rfl (by decide)]
    walk_at "e0"
    rw [if_neg Bool.false_ne_true, e_next]
    unfold rd__law_same_1
    walk_at "e0"
    rw [if_neg (show ¬ isNone (D.int z) = true from Bool.false_ne_true), e_next]
    unfold rd__law_same_2
    walk_at "e0"
    rw [isi_eval (t := "int") (n := "bool") (b := false) rfl (by decide)]
    walk_at "e0"
    rw [if_neg Bool.false_ne_true, e_next]
    unfold rd__law_same_3
    walk_at "e0"
    rw [isi_eval (t := "int") (n := "int") (b := true) rfl (by decide)]
    walk_at "e0"
    rw [if_pos trivial]
    refine ⟨x, rfl, px, ?_⟩
    rw [e_asB]
    cases x with
    | int w =>
      rw [if_pos (show isIntB (.int w) = true from rfl), v_eqI]
      have e : sameB (.int w) (.int z) = decide (w = z) := by simp [sameB]
      rw [e] at q'
      exact q'
    | ref _ => simp [plB] at px
    | ty _ => simp [plB] at px
    | rol _ => simp [plB] at px
    | _ =>
      rw [if_neg (by simp [isIntB])]
      have e : Lh Q (.bool false) h := by simpa [sameB] using q'
      exact e
  | bool z =>
    rw [isi_eval (t := "bool") (n := "tuple") (b := false) rfl (by decide)]
    walk_at "e0"
    rw [if_neg Bool.false_ne_true, e_next]
    unfold rd__law_same_1
    walk_at "e0"
    rw [if_neg (show ¬ isNone (D.bool z) = true from Bool.false_ne_true), e_next]
    unfold rd__law_same_2
    walk_at "e0"
    rw [isi_eval (t := "bool") (n := "bool") (b := true) rfl (by decide)]
    walk_at "e0"
    rw [if_pos trivial]
    have no : sameB x (.bool z) = false → Lh Q (.bool false) h := fun e => by rw [e] at q'; exact q'
    cases x with
    | bool w =>
      rw [isi_eval (t := "bool") (n := "bool") (b := true) rfl (by decide), e_asB, if_pos rfl, v_eqBB]
      have e : sameB (.bool w) (.bool z) = decide (w = z) := by simp [sameB]
      rw [e] at q'
      exact q'
    | ref _ => simp [plB] at px
    | ty _ => simp [plB] at px
    | rol _ => simp [plB] at px
    | _ =>
      rw [isi_eval tx (b := false) (by rfl), e_asB, if_neg (by decide)]
      exact no (by simp [sameB])
  | tup ys =>
    rw [isi_eval (t := "tuple") (n := "tuple") (b := true) rfl (by decide)]
    walk_at "e0"
    rw [if_pos (by trivial)]
    have no : sameB x (.tup ys) = false → Lh Q (.bool false) h := fun e => by rw [e] at q'; exact q'
    cases x with
    | ref _ => simp [plB] at px
    | ty _ => simp [plB] at px
    | rol _ => simp [plB] at px
    | tup xs =>
      rw [isi_eval (t := "tuple") (n := "tuple") (b := true) rfl (by decide)]
      walk_at "e0"
      rw [if_neg (by decide)]
      by_cases hl : xs.length = ys.length
      · rw [if_neg (by simp [hl]), e_next]
        walk_at "e0"
        have oy' : ys.length ≤ 100000 ∧ okYs ys = true := by simpa [okY] using oy
        refine ⟨⟨by omega, by omega⟩, ?_⟩
        have ee : sameB (.tup xs) (.tup ys) = ((List.range ys.length).map fun k => sameB (xs.getD k .none) (ys.getD k .none)).all id := by
          simp only [sameB, sameBs_all hl, List.all_map]; rfl
        refine lcT_t (List.range ys.length) (fun (i : Nat) => D.int i) (fun k => .bool (sameB (xs.getD k .none) (ys.getD k .none))) (rgD_0 _) (by rw [List.length_range]; exact Nat.le_trans oy'.1 (by decide)) trivial (fun k hk Q' hQ => ?_) fun p np => ?_
        · rw [List.mem_range] at hk
          walk_at "e0"
          have ex : xs[k]? = some (xs.getD k .none) := by rw [List.getD_eq_getElem?_getD, List.getElem?_eq_getElem (by omega)]; rfl
          have ey : ys[k]? = some (ys.getD k .none) := by rw [List.getD_eq_getElem?_getD, List.getElem?_eq_getElem (by omega)]; rfl
          rw [atI_of rfl ex, atI_of rfl ey]
          walk_at "e0"
          cases n with
          | zero => simp [pure?] at py
          | succ n =>
            have py' : pures? n ys = true := by simpa [pure?] using py
            have px' : plBs xs = true := by simpa [plB] using px
            exact ⟨_, _, rfl, plBs_mem px' (List.mem_of_getElem? ex), pures_mem py' (List.mem_of_getElem? ey), okYs_mem oy'.2 (List.mem_of_getElem? ey), hQ _ le.refl⟩
        · have : (List.map (fun k => D.bool (sameB (xs.getD k .none) (ys.getD k .none))) (List.range ys.length)) = (((List.range ys.length).map fun k => sameB (xs.getD k .none) (ys.getD k .none))).map D.bool := by rw [List.map_map]; rfl
          rw [this]
          refine all_bools ?_
          rw [← ee]
          exact lh_le (le_up np) q
      · rw [if_pos (by simp; omega)]
        exact no (by simp [sameB, sameBs_len hl])
    | _ =>
      rw [isi_eval tx (b := false) (by rfl)]
      walk_at "e0"
      rw [if_pos (by trivial), if_pos (by trivial)]
      exact no (by simp [sameB])
  | rol _ => simp [okY] at oy
  | ref _ => simp [okY] at oy
  | ty _ => simp [okY] at oy
/-! conditions as data -/
theorem plB_cd : ∀ w : Cd, plB (cdD w) = true
  | .always => by simp [cdD, plB, plBs]
  | .named n => by simp [cdD, plB, plBs]
  | .flag n => by simp [cdD, plB, plBs]
  | .tag k n => by simp [cdD, plB, plBs]
  | .walk n m => by simp [cdD, plB, plBs]
  | .atm l r g => by simp [cdD, plB, plBs]
  | .nt c => by simp [cdD, plB, plBs, plB_cd c]
  | .bin o a b => by simp [cdD, plB, plBs, plB_cd a, plB_cd b]
def dpW : Cd → Nat
  | .nt w => dpW w + 1
  | .bin _ a b => Nat.max (dpW a) (dpW b) + 1
  | _ => 1
theorem okY_cd : ∀ w : Cd, okY (cdD w) = true
  | .always => by simp [cdD, okY, okYs]
  | .named n => by simp [cdD, okY, okYs]
  | .flag n => by simp [cdD, okY, okYs]
  | .tag k n => by simp [cdD, okY, okYs]
  | .walk n m => by simp [cdD, okY, okYs]
  | .atm l r g => by simp [cdD, okY, okYs]
  | .nt c => by simp [cdD, okY, okYs, okY_cd c]
  | .bin o a b => by simp [cdD, okY, okYs, okY_cd a, okY_cd b]
theorem pure_cd : ∀ {w : Cd} {n : Nat}, dpW w + 3 ≤ n → pure? n (cdD w) = true
  | .nt w, n, h => by
    have e : dpW (.nt w) = dpW w + 1 := rfl
    obtain ⟨k, rfl⟩ : ∃ k, n = k + 2 := ⟨n - 2, by omega⟩
    have := pure_cd (w := w) (n := k + 1) (by omega)
    simp [cdD, pure?, pures?, this]
  | .bin o a b, n, h => by
    have e : dpW (.bin o a b) = Nat.max (dpW a) (dpW b) + 1 := rfl
    have l1 := Nat.le_max_left (dpW a) (dpW b)
    have l2 := Nat.le_max_right (dpW a) (dpW b)
    have l3 : Nat.max (dpW a) (dpW b) = max (dpW a) (dpW b) := rfl
    obtain ⟨k, rfl⟩ : ∃ k, n = k + 2 := ⟨n - 2, by omega⟩
    have h1 := pure_cd (w := a) (n := k + 1) (by omega)
    have h2 := pure_cd (w := b) (n := k + 1) (by omega)
    simp [cdD, pure?, pures?, h1, h2]
  | .always, n, h => by
    obtain ⟨k, rfl⟩ : ∃ k, n = k + 3 := ⟨n - 3, by omega⟩
    simp [cdD, pure?, pures?]
  | .named _, n, h => by
    obtain ⟨k, rfl⟩ : ∃ k, n = k + 3 := ⟨n - 3, by omega⟩
    simp [cdD, pure?, pures?]
  | .flag _, n, h => by
    obtain ⟨k, rfl⟩ : ∃ k, n = k + 3 := ⟨n - 3, by omega⟩
    simp [cdD, pure?, pures?]
  | .tag _ _, n, h => by
    obtain ⟨k, rfl⟩ : ∃ k, n = k + 3 := ⟨n - 3, by omega⟩
    simp [cdD, pure?, pures?]
  | .walk _ _, n, h => by
    obtain ⟨k, rfl⟩ : ∃ k, n = k + 3 := ⟨n - 3, by omega⟩
    simp [cdD, pure?, pures?]
  | .atm _ _ _, n, h => by
    obtain ⟨k, rfl⟩ : ∃ k, n = k + 3 := ⟨n - 3, by omega⟩
    simp [cdD, pure?, pures?]
theorem same_tup {xs ys : List D} : sameB (.tup xs) (.tup ys) = sameBs xs ys := by simp [sameB]
theorem same_str {a b : Str} : sameB (.str a) (.str b) = decide (a = b) := by simp [sameB]
theorem sames_cons {x y : D} {xs ys : List D} : sameBs (x :: xs) (y :: ys) = (sameB x y && sameBs xs ys) := by simp [sameBs]
theorem same_self : ∀ w : Cd, sameB (cdD w) (cdD w) = true
  | .always => by simp [cdD, sameB, sameBs]
  | .named n => by simp [cdD, sameB, sameBs]
  | .flag n => by simp [cdD, sameB, sameBs]
  | .tag k n => by simp [cdD, sameB, sameBs]
  | .walk n m => by simp [cdD, sameB, sameBs]
  | .atm l r g => by simp [cdD, sameB, sameBs]
  | .nt c => by simp [cdD, sameB, sameBs, same_self c]
  | .bin o a b => by simp [cdD, sameB, sameBs, same_self a, same_self b]
theorem same_none (w : Cd) : sameB .none (cdD w) = false := by cases w <;> simp [cdD, sameB]
def hdS : Cd → Str
  | .always => Str.ofString "always"
  | .named _ => Str.ofString "named"
  | .flag _ => Str.ofString "flag"
  | .tag _ _ => Str.ofString "tag"
  | .walk _ _ => Str.ofString "walk"
  | .atm _ _ _ => Str.ofString "atmost"
  | .nt _ => Str.ofString "not"
  | .bin o _ _ => opS o
def tgW : Cd → Nat
  | .nt _ => 1
  | .bin true _ _ => 3
  | .bin false _ _ => 4
  | _ => 0
def tgS (s : Str) : Nat := if s = Str.ofString "not" then 1 else if s = Str.ofString "and" then 3 else if s = Str.ofString "or" then 4 else 0
theorem tg_hd (w : Cd) : tgS (hdS w) = tgW w := by
  cases w with
  | always => show tgS (Str.ofString "always") = 0; decide +kernel
  | named n => show tgS (Str.ofString "named") = 0; decide +kernel
  | flag n => show tgS (Str.ofString "flag") = 0; decide +kernel
  | tag k n => show tgS (Str.ofString "tag") = 0; decide +kernel
  | walk n m => show tgS (Str.ofString "walk") = 0; decide +kernel
  | atm l r g => show tgS (Str.ofString "atmost") = 0; decide +kernel
  | nt w => show tgS (Str.ofString "not") = 1; decide +kernel
  | bin o a b =>
    cases o with
    | true => show tgS (opS true) = 3; decide +kernel
    | false => show tgS (opS false) = 4; decide +kernel
theorem cd_hd2 (w : Cd) : ∃ r, cdD w = .tup (.str (hdS w) :: r) := by cases w <;> exact ⟨_, rfl⟩
theorem same_tg {u w : Cd} (h : sameB (cdD u) (cdD w) = true) : tgW u = tgW w := by
  obtain ⟨r1, e1⟩ := cd_hd2 u
  obtain ⟨r2, e2⟩ := cd_hd2 w
  rw [e1, e2, same_tup, sames_cons, same_str, Bool.and_eq_true] at h
  rw [← tg_hd, ← tg_hd, of_decide_eq_true h.1]
theorem tg_0 {w : Cd} (h : tgW w = 0) (n : Nat) : pcW w n = 0 := by
  cases w with
  | nt w => cases h
  | bin o a b => cases o <;> cases h
  | _ => rfl
theorem same_pc : ∀ {u w : Cd}, sameB (cdD u) (cdD w) = true → ∀ n, pcW u n = pcW w n
  | .nt a, w, h, n => by
    have e := same_tg h
    cases w with
    | nt b =>
      simp only [cdD, same_tup, sames_cons, Bool.and_eq_true] at h
      exact same_pc h.2.1 2
    | bin o a b => cases o <;> simp [tgW] at e
    | _ => simp [tgW] at e
  | .bin true a b, w, h, n => by
    have e := same_tg h
    cases w with
    | bin o c d =>
      cases o with
      | false => simp [tgW] at e
      | true =>
        simp only [cdD, same_tup, sames_cons, Bool.and_eq_true] at h
        show pcW a 1 + pcW b 2 + _ = pcW c 1 + pcW d 2 + _
        rw [same_pc h.2.1 1, same_pc h.2.2.1 2]
    | _ => simp [tgW] at e
  | .bin false a b, w, h, n => by
    have e := same_tg h
    cases w with
    | bin o c d =>
      cases o with
      | true => simp [tgW] at e
      | false =>
        simp only [cdD, same_tup, sames_cons, Bool.and_eq_true] at h
        show pcW a 0 + pcW b 1 + _ = pcW c 0 + pcW d 1 + _
        rw [same_pc h.2.1 0, same_pc h.2.2.1 1]
    | _ => simp [tgW] at e
  | .always, w, h, n => by rw [tg_0 (w := w) (same_tg h).symm]; rfl
  | .named _, w, h, n => by rw [tg_0 (w := w) (same_tg h).symm]; rfl
  | .flag _, w, h, n => by rw [tg_0 (w := w) (same_tg h).symm]; rfl
  | .tag _ _, w, h, n => by rw [tg_0 (w := w) (same_tg h).symm]; rfl
  | .walk _ _, w, h, n => by rw [tg_0 (w := w) (same_tg h).symm]; rfl
  | .atm _ _ _, w, h, n => by rw [tg_0 (w := w) (same_tg h).symm]; rfl
def whD : Option Cd → D
  | some w => cdD w
  | none => .none
theorem fewer {X : List Str} {w : Cd} (G : CdG w) (h : cnt X < cnt (cdT w 0)) : plB (whD (wholeT X)) = true ∧ sameB (whD (wholeT X)) (cdD w) = false := by
  cases e : wholeT X with
  | none => exact ⟨rfl, same_none w⟩
  | some u =>
    refine ⟨plB_cd u, ?_⟩
    cases k : sameB (whD (some u)) (cdD w) with
    | false => rfl
    | true =>
      exfalso
      have e1 := same_pc (u := u) (w := w) k 0
      have e2 := whole_count e
      rw [cnt_cd 0 G] at h
      omega
end
section
/-! partner, is_text -/
theorem add_ovE {h hh h1 : MH} {p1 l : Addr} {ws : List (Addr × MO)} {x y : MO} (L : OV h hh ws) (n1 : hh p1 = none) (n2 : up hh p1 x l = none) (e : up (up hh p1 x) l y = h1) : OV h h1 ((l, y) :: ws) := e ▸ ((L.new n1 x).new n2 y).kp
theorem add_le {a b : Nat} (h : a + b ≤ 1000000) : a + b ≤ sizeLine := Nat.le_of_lt (sl_lt h)
theorem add_at {h : MH} {Q : KD} {p q : Addr} {a b : List D} (e1 : h p = some (.lst a)) (e2 : h q = some (.lst b)) (sz : a.length + b.length ≤ 1000000) (k : ∀ l, h l = none → Q (.ref l) (up h l (.lst (a ++ b)))) : addD (.ref p) (.ref q) h Q := ⟨a, b, e1, e2, add_le sz, k⟩
theorem rg2_at {k n i : Nat} {x : D} (hk : k ≤ n) (h : (rgD (k : Int) ((n : Int) - (k : Int)).toNat)[i]? = some x) : i + k < n ∧ x = .int ((k + i : Nat) : Int) := by
  rw [show ((n : Int) - (k : Int)).toNat = n - k by omega] at h
  unfold rgD at h
  rw [List.getElem?_map] at h
  obtain ⟨y, hy, rfl⟩ := Option.map_eq_some_iff.mp h
  obtain ⟨hl, e⟩ := List.getElem?_eq_some_iff.mp hy
  rw [List.length_range] at hl
  rw [List.getElem_range] at e
  subst e
  exact ⟨by omega, rfl⟩
def sp__law_partner : P1 := fun ds h Q => ∃ (wp : Addr) (T : List Str) (k : Nat), ds = [.ref wp, .int (k : Nat)] ∧ h wp = some (.lst (T.map D.str)) ∧ T.length ≤ 100000 ∧ k < T.length ∧ ∀ j : Nat, k ≤ j → j < T.length → Q (.int (j : Nat)) h
theorem len__law_partner : ∀ ds h Q, sp__law_partner ds h Q → ds.length = 2 := fun ds h Q ⟨_, _, _, e, _⟩ => by rw [e]; rfl
theorem sat__law_partner : ∀ ds h Q, sp__law_partner ds h Q → rd__law_partner (endN Q) (startD 4 ds) h := by
  rintro ds h Q ⟨wp, T, k, rfl, ew, hT, hk, q⟩
  show rd__law_partner (endN Q) [some (.ref wp), some (.int (k : Nat)), none, none] h
  unfold rd__law_partner
  walk_at "e0"
  unfold rd__law_partner_1
  walk_at "e0"
  rw [ew]
  walk_at "e0"
  rw [List.length_map]
  refine ⟨by omega, ?_⟩
  refine ⟨fun i σ hh => hh = h ∧ ∃ (d : Int) (x3 : Option D), σ = [some (.ref wp), some (.int (k : Nat)), some (.int d), x3], Lw.of ⟨rfl, _, _, rfl⟩, fun _ _ _ _ => trivial, ?_, ?_⟩
  · rintro i x σ hh hx ⟨rfl, d, x3, rfl⟩
    obtain ⟨hi, rfl⟩ := rg2_at (Nat.le_of_lt hk) hx
    walk_at "e0"
    unfold rd__law_partner_b1
    walk_at "e0"
    have et : (T.map D.str)[k + i]? = some (.str (T[k + i]'(by omega))) := by rw [List.getElem?_map, List.getElem?_eq_getElem (by omega)]; rfl
    rw [ew]
    walk_at "e0"
    rw [atI_of rfl et]
    walk_at "e0"
    rw [ew]
    walk_at "e0"
    rw [atI_of rfl et]
    walk_at "e0"
    unfold rd__law_partner_b1_1
    walk_at "e0"
    refine (fun dd : Int => ?_ : ∀ dd : Int, if decide (dd = 0) = true then (endN Q).rt (.int ((k + i : Nat) : Int)) hh else dNext _ [some (.ref wp), some (.int (k : Nat)), some (.int dd), some (.int ((k + i : Nat) : Int))] hh) _
    by_cases z : dd = 0
    · rw [if_pos (decide_eq_true z)]
      exact lh_of (q (k + i) (by omega) (by omega))
    · rw [if_neg (by simpa using z), e_next]
      exact Lw.of ⟨rfl, _, _, rfl⟩
  · rintro σ hh ⟨rfl, d, x3, rfl⟩
    unfold rd__law_partner_2
    walk_at "e0"
    exact lh_of (q k (Nat.le_refl _) hk)
theorem cut_mid {T : List Str} {a b : Nat} (ha : a ≤ T.length) (hb : b ≤ T.length) : cutD (T.map D.str) (some (a : Int)) (some (b : Int)) = ((T.drop a).take (b - a)).map D.str := by
  unfold cutD
  rw [HT.sIx_nat, HT.sIx_nat, List.length_map, Nat.min_eq_left ha, Nat.min_eq_left hb, List.map_take, List.map_drop]
theorem cnt_cut {T : List Str} {k j : Nat} (hk : k < T.length) (e : T[k] = tk "(") (hj : k ≤ j) : cnt (T.take k ++ (T.drop (k + 1)).take (j - (k + 1)) ++ T.drop (j + 1)) < cnt T := by
  have e1 : T = T.take k ++ tk "(" :: T.drop (k + 1) := by
    conv => lhs; rw [← List.take_append_drop k T, List.drop_eq_getElem_cons hk, e]
  have e2 : cnt T = cnt (T.take k) + (cnt (T.drop (k + 1)) + 1) := by
    conv => lhs; rw [e1]
    rw [cnt_app, cnt_par]
  have e3 : T.drop (k + 1) = (T.drop (k + 1)).take (j - (k + 1)) ++ (T.drop (k + 1)).drop (j - (k + 1)) := (List.take_append_drop _ _).symm
  have e4 : cnt (T.drop (k + 1)) = cnt ((T.drop (k + 1)).take (j - (k + 1))) + cnt ((T.drop (k + 1)).drop (j - (k + 1))) := by
    conv => lhs; rw [e3]
    rw [cnt_app]
  have e5 : cnt (T.drop (j + 1)) ≤ cnt ((T.drop (k + 1)).drop (j - (k + 1))) := by
    rw [List.drop_drop]
    unfold cnt
    refine List.Sublist.countP_le ?_
    have : T.drop (j + 1) = (T.drop (k + 1 + (j - (k + 1)))).drop (j + 1 - (k + 1 + (j - (k + 1)))) := by
      rw [List.drop_drop]
      congr 1
      omega
    rw [this]
    exact List.drop_sublist _ _
  rw [cnt_app, cnt_app]
  omega
theorem OV.nil {h hh : MH} {ws : List (Addr × MO)} (L : OV h hh ws) : OV h hh [] := L.sub (List.nil_sublist ws)
/-- a condition that was drawn -/
structure CdF (w : Cd) : Prop where
  g : CdG w
  d : dpW w ≤ 12
  l : (cdT w 0).length ≤ 60000
def sp__law_is_text : P1 := fun ds h Q => ∃ (w : Cd) (wp : Addr), ds = [cdD w, .ref wp] ∧ h wp = some (.lst ((cdT w 0).map D.str)) ∧ CdF w ∧ Q (.bool true) h
theorem len__law_is_text : ∀ ds h Q, sp__law_is_text ds h Q → ds.length = 2 := fun ds h Q ⟨_, _, e, _⟩ => by rw [e]; rfl
theorem sat__law_is_text : ∀ ds h Q, sp__law_is_text ds h Q → rd__law_is_text (sp__law_same 18) sp__law_whole sp__law_partner (endN Q) (startD 4 ds) h := by
  rintro ds h Q ⟨w, wp, rfl, ew, F, q⟩
  show rd__law_is_text (sp__law_same 18) sp__law_whole sp__law_partner (endN Q) [some (cdD w), some (.ref wp), none, none] h
  unfold rd__law_is_text
  walk_at "e0"
  refine ⟨wp, cdT w 0, rfl, ew, Nat.le_trans F.l (by decide), ?_⟩
  rw [whole_back F.g]
  dsimp only
  have ok : ∀ (d : D) (k : KD), plB d = true → k (.bool (sameB d (cdD w))) h → True := fun _ _ _ _ => trivial
  refine ⟨cdD w, cdD w, rfl, plB_cd w, pure_cd (n := 17) (show dpW w + 3 ≤ 17 by have := F.d; omega), okY_cd w, ?_⟩
  rw [same_self]
  dsimp only
  rw [v_truB, if_neg (by decide), e_next]
  unfold rd__law_is_text_1
  walk_at "e0"
  rw [ew]
  walk_at "e0"
  rw [List.length_map]
  have hl := F.l
  refine ⟨by omega, ?_⟩
  refine ⟨fun i σ hh => OV h hh [] ∧ ∃ (x2 x3 : Option D), σ = [some (cdD w), some (.ref wp), x2, x3], Lw.of ⟨.start, _, _, rfl⟩, fun _ _ _ _ => trivial, ?_, ?_⟩
  · rintro i x σ hh hx ⟨L, x2, x3, rfl⟩
    obtain ⟨hi, rfl⟩ := rg_at hx
    walk_at "e0"
    unfold rd__law_is_text_b1
    walk_at "e0"
    have et : ((cdT w 0).map D.str)[i]? = some (.str ((cdT w 0)[i])) := by rw [List.getElem?_map, List.getElem?_eq_getElem hi]; rfl
    rw [L.old ew]
    walk_at "e0"
    rw [atI_of rfl et]
    walk_at "e0"
    by_cases zp : (cdT w 0)[i] = tk "("
    · rw [if_pos (show decide ((cdT w 0)[i] = Str.ofString "(") = true from decide_eq_true zp)]
      refine ⟨wp, cdT w 0, i, rfl, L.old ew, by omega, hi, fun j hj jl => ?_⟩
      walk_at "e0"
      rw [L.old ew]
      walk_at "e0"
      intro p1 np1
      generalize e1 : up _ p1 _ = h1
      have L1 := L.newE np1 e1
      clear e1
      rw [L1.old ew]
      walk_at "e0"
      intro p2 np2
      generalize e2 : up _ p2 _ = h2
      have L2 := L1.newE np2 e2
      clear e2
      rw [show ((i : Int) + 1) = ((i + 1 : Nat) : Int) by omega, cut_mid (by omega) (by omega)] at L2
      rw [cut_to (by omega)] at L2
      refine ⟨_, _, L2.get 1 rfl, L2.get 0 rfl, add_le (by simp only [List.length_map, List.length_take, List.length_drop]; omega), fun p3 np3 => ?_⟩
      generalize e3 : up _ p3 _ = h3
      have L3 := L2.newE np3 e3
      clear e3
      rw [L3.old ew]
      walk_at "e0"
      intro p4 np4
      generalize e4 : up _ p4 _ = h4
      have L4 := L3.newE np4 e4
      clear e4
      rw [show ((j : Int) + 1) = ((j + 1 : Nat) : Int) by omega, cut_from (by omega)] at L4
      refine ⟨_, _, L4.get 1 rfl, L4.get 0 rfl, add_le (by simp only [List.length_append, List.length_map, List.length_take, List.length_drop]; omega), fun p5 np5 => ?_⟩
      generalize e5 : up _ p5 _ = h5
      have L5 := L4.newE np5 e5
      clear e5
      have cc := cnt_cut hi zp hj
      obtain ⟨f1, f2⟩ := fewer F.g cc
      refine ⟨p5, (cdT w 0).take i ++ ((cdT w 0).drop (i + 1)).take (j - (i + 1)) ++ (cdT w 0).drop (j + 1), rfl, by rw [List.map_append, List.map_append]; exact L5.get 0 rfl, by simp only [List.length_append, List.length_take, List.length_drop]; omega, ?_⟩
      refine ⟨_, cdD w, rfl, f1, pure_cd (n := 17) (show dpW w + 3 ≤ 17 by have := F.d; omega), okY_cd w, ?_⟩
      show truD (.bool (sameB (whD (wholeT _)) (cdD w))) h5 _
      rw [f2, v_truB, if_neg (by decide), e_next]
      exact Lw.of ⟨L5.nil, _, _, rfl⟩
    · rw [if_neg (show ¬ decide ((cdT w 0)[i] = Str.ofString "(") = true from fun y => zp (of_decide_eq_true y)), e_next]
      exact Lw.of ⟨L, _, _, rfl⟩
  · rintro σ hh ⟨L, x2, x3, rfl⟩
    unfold rd__law_is_text_2
    walk_at "e0"
    exact L.ret q
end
section
/-! the writer: terms, atoms, conditions -/
def sp_enclosed : P1 := fun ds h Q => ∃ (p : Addr) (X : List Str) (l n : Nat), ds = [.ref p, .int l, .int n] ∧ h p = some (.lst (X.map D.str)) ∧ X.length ≤ 200000 ∧ (n ≤ l → Q (.ref p) h) ∧ (¬ n ≤ l → ∀ p', h p' = none → Q (.ref p') (up h p' (.lst ((tk "(" :: (X ++ [tk ")"])).map D.str))))
theorem len_enclosed : ∀ ds h Q, sp_enclosed ds h Q → ds.length = 3 := fun ds h Q ⟨_, _, _, _, e, _⟩ => by rw [e]; rfl
theorem sat_enclosed : ∀ ds h Q, sp_enclosed ds h Q → rd_enclosed (endN Q) (startD 3 ds) h := by
  rintro ds h Q ⟨p, X, l, n, rfl, ep, hX, q1, q2⟩
  show rd_enclosed (endN Q) [some (.ref p), some (.int l), some (.int n)] h
  unfold rd_enclosed
  walk_at "e0"
  by_cases z : n ≤ l
  · rw [if_pos (by simp; omega)]
    exact lh_of (q1 z)
  · rw [if_neg (by simp; omega)]
    refine ⟨by decide, fun p1 np1 => ⟨_, _, up_same, (up_ne (nef ep np1)).trans ep, add_le (by simp only [List.length_map, List.length_cons, List.length_nil]; omega), fun l1 nl1 => ?_⟩⟩
    generalize e1 : up _ l1 _ = h1
    have L1 := add_ovE .start np1 nl1 e1
    refine ⟨by decide, fun p2 np2 => ⟨_, _, (up_ne (nef (L1.get 0 rfl) np2)).trans (L1.get 0 rfl), up_same, add_le (by simp only [List.length_append, List.length_map, List.length_cons, List.length_nil]; omega), fun l2 nl2 => ?_⟩⟩
    generalize e2 : up _ l2 _ = h2
    have L2 := add_ovE L1 np2 nl2 e2
    refine L2.retN (p := l2) (x := .lst ((tk "(" :: (X ++ [tk ")"])).map D.str)) ?_ fun n => q2 z l2 n
    have e : (tk "(" :: (X ++ [tk ")"])).map D.str = ([.str (Str.ofString "(")] ++ X.map D.str) ++ [.str (Str.ofString ")")] := by
      simp only [List.map_cons, List.map_append, List.map_nil, List.cons_append, List.nil_append]
      rfl
    rw [e]
    simp
/-- the end: in parentheses or not -/
theorem enc_at {Q : KD} {h hh : MH} {p : Addr} {ws : List (Addr × MO)} {X : List Str} {l n : Nat} {w : Cd} (L : OV h hh ((p, .lst (X.map D.str)) :: ws)) (hX : X.length ≤ 200000) (e : cdT w n = enc l n X) (q : ∀ p, h p = none → Q (.ref p) (up h p (.lst ((cdT w n).map D.str)))) : sp_enclosed [.ref p, .int l, .int n] hh (endN Q).rt := by
  refine ⟨p, X, l, n, rfl, L.get 0 rfl, hX, fun z => ?_, fun z p' np => ?_⟩
  · unfold enc at e
    rw [if_pos z] at e
    rw [e] at q
    exact L.retN (by simp) fun m => q p m
  · unfold enc at e
    rw [if_neg z] at e
    rw [e] at q
    exact (L.new np _).retN (by simp) fun m => q p' m
theorem num_log {n : Nat} (h : n ≤ 9999) : ((n : Nat) : Int).natAbs.log2 < 1920 := by
  rw [Int.natAbs_natCast]
  by_cases z : n = 0
  · subst z; decide
  · exact (Nat.log2_lt z).mpr (Nat.lt_of_le_of_lt h (Nat.lt_of_lt_of_le (show 9999 < 2 ^ 14 by decide) (Nat.pow_le_pow_right (by decide) (by decide))))
theorem cps_app (x y : Str) : (x ++ y).cps.toList = x.cps.toList ++ y.cps.toList := TL.tl_append x y
def abcL : List Nat := [97, 98, 99, 100, 101, 102, 103, 104, 105, 106, 107, 108, 109, 110, 111, 112, 113, 114, 115, 116, 117, 118, 119, 120, 121, 122]
def abnL : List Nat := abcL ++ [48, 49, 50, 51, 52, 53, 54, 55, 56, 57]
theorem abc_eq : abcS.cps.toList = abcL := by decide +kernel
theorem abn_eq : abnS.cps.toList = abnL := by decide +kernel
theorem gd_facts {s : Str} (g : gdN s = true) : s.length ≤ 8 ∧ ∀ c ∈ s.cps.toList, c ∈ abnL := by
  unfold gdN at g
  simp only [Bool.and_eq_true, decide_eq_true_eq] at g
  refine ⟨g.2.1, fun c hc => ?_⟩
  have := List.all_eq_true.mp g.2.2.2.2.2 c hc
  rw [inS_one, abn_eq] at this
  exact of_decide_eq_true this
theorem fr_dot {k : Nat} (h : k < 3) : 46 ∉ (frT k).cps.toList := by
  rcases (show k = 0 ∨ k = 1 ∨ k = 2 by omega) with rfl | rfl | rfl <;> decide +kernel
theorem split_fld {k : Nat} {n : Str} (hk : k < 3) (g : gdN n = true) : Txt.split (frT k ++ tk "." ++ n) (Str.ofString ".") = [frT k, n] := by
  have e := TL.split_join (y := Str.ofString ".") (s := 46) (S := []) (by decide +kernel) (by decide +kernel) (parts := [frT k, n]) (by simp) (fun p hp => by
    simp only [List.mem_cons, List.not_mem_nil, or_false] at hp
    rcases hp with rfl | rfl
    · exact fr_dot hk
    · exact fun m => absurd ((gd_facts g).2 46 m) (by decide))
  rw [TL.join_eq] at e
  exact e
def sp_term_tokens : P1 := fun ds h Q => ∃ s : Sd, ds = [.str (sdS s)] ∧ SdG s ∧ ∀ p, h p = none → Q (.ref p) (up h p (.lst ((sdT s).map D.str)))
theorem len_term_tokens : ∀ ds h Q, sp_term_tokens ds h Q → ds.length = 1 := fun ds h Q ⟨_, e, _⟩ => by rw [e]; rfl
theorem sat_term_tokens : ∀ ds h Q, sp_term_tokens ds h Q → rd_term_tokens (endN Q) (startD 3 ds) h := by
  rintro ds h Q ⟨s, rfl, G, q⟩
  show rd_term_tokens (endN Q) [some (.str (sdS s)), none, none] h
  unfold rd_term_tokens
  walk_at "e0"
  rw [show inS (Str.ofString ".") (sdS s) = decide (46 ∈ (sdS s).cps.toList) by rw [show Str.ofString "." = ⟨#[46]⟩ by decide +kernel]; exact inS_one 46 _]
  cases s with
  | wd b =>
    rw [decide_eq_false (by cases b <;> decide +kernel), if_pos (by decide)]
    refine ⟨by show 1 ≤ sizeLine; decide, fun p np => ?_⟩
    exact (OV.start.new np _).retN (List.mem_cons_self ..) fun m => q p m
  | fld k n =>
    obtain ⟨hk, g⟩ := G
    have lf := fr_len hk
    have lg := (gd_facts g).1
    have ld : (tk ".").length = 1 := by decide +kernel
    have mx : 1000 ≤ sizeLine := by decide
    have in_ : 46 ∈ (sdS (.fld k n)).cps.toList := by
      show 46 ∈ (frT k ++ tk "." ++ n).cps.toList
      rw [cps_app, cps_app, show (tk ".").cps.toList = [46] by decide +kernel]
      simp
    rw [decide_eq_true in_, if_neg (by decide), e_next]
    unfold rd_term_tokens_1
    walk_at "e0"
    refine ⟨⟨_, rfl⟩, ?_⟩
    rw [e_c, v_split]
    refine ⟨by decide +kernel, ?_, ?_⟩
    · show (frT k ++ tk "." ++ n).length + 2 ≤ _
      rw [Str.length_append, Str.length_append]
      omega
    rw [show Txt.split (sdS (.fld k n)) (Str.ofString ".") = [frT k, n] from split_fld hk g]
    refine ⟨?_, fun p np => ?_⟩
    · have ok1 : ∀ z : Str, z.length ≤ 20 → (∀ c ∈ z.cps.toList, c < 1000) → okSB z = true := fun z h1 h2 => by
        unfold okSB
        rw [Bool.and_eq_true, decide_eq_true_eq]
        exact ⟨by omega, strOk_iff.mpr fun c hc => by have := h2 c hc; omega⟩
      have a1 : okSB (frT k) = true := by rcases (show k = 0 ∨ k = 1 ∨ k = 2 by omega) with rfl | rfl | rfl <;> decide +kernel
      have a2 : okSB n = true := ok1 n (by omega) fun c hc => by
        have e : ∀ c ∈ abnL, c < 1000 := by decide
        exact e c ((gd_facts g).2 c hc)
      simp [a1, a2]
    · have L1 := OV.start.new np (.lst ([frT k, n].map D.str))
      generalize up h p (.lst ([frT k, n].map D.str)) = h1 at L1 ⊢
      walk_at "e0"
      rw [e_gLs]
      refine ⟨_, L1.get 0 rfl, rfl, ?_⟩
      show gCn (gN 1) (gCn (gN 2) gNl) [.str (frT k), .str n] _ h1 _
      walk_at "e0"
      unfold rd_term_tokens_2
      walk_at "e0"
      refine ⟨by show 3 ≤ sizeLine; decide, fun p2 np2 => ?_⟩
      exact (L1.new np2 _).retN (List.mem_cons_self ..) fun m => q p2 m
def sp_atom_tokens : P1 := fun ds h Q => ∃ w : Cd, ds = [cdD w] ∧ CdG w ∧ isFact w ∧ ∀ p, h p = none → Q (.ref p) (up h p (.lst ((cdT w 0).map D.str)))
theorem len_atom_tokens : ∀ ds h Q, sp_atom_tokens ds h Q → ds.length = 1 := fun ds h Q ⟨_, e, _⟩ => by rw [e]; rfl
theorem sat_atom_tokens : ∀ ds h Q, sp_atom_tokens ds h Q → rd_atom_tokens sp_term_tokens (endN Q) (startD 4 ds) h := by
  rintro ds h Q ⟨w, rfl, G, f, q⟩
  show rd_atom_tokens sp_term_tokens (endN Q) [some (cdD w), none, none, none] h
  have one : ∀ (T : List Str), T = cdT w 0 → ∀ p, h p = none → (endN Q).rt (.ref p) (up h p (.lst (T.map D.str))) := fun T e p np => by
    subst e
    exact (OV.start.new np _).retN (List.mem_cons_self ..) fun m => q p m
  unfold rd_atom_tokens
  walk_at "e0"
  cases w with
  | nt c => exact f.elim
  | bin o a b => exact f.elim
  | always =>
    rw [show cdD .always = .tup [.str (Str.ofString "always")] from rfl]
    walk_at "e0"
    rw [atI_z]
    walk_at "e0"
    unfold rd_atom_tokens_1
    walk_at "e0"
    rw [if_pos (by decide)]
    exact ⟨by show 1 ≤ sizeLine; decide, one [tk "always"] rfl⟩
  | named m =>
    rw [show cdD (.named m) = .tup [.str (Str.ofString "named"), .str m] from rfl]
    walk_at "e0"
    rw [atI_z]
    walk_at "e0"
    unfold rd_atom_tokens_1
    walk_at "e0"
    rw [if_neg (by decide +kernel), e_next]
    unfold rd_atom_tokens_2
    walk_at "e0"
    rw [if_pos (by decide), atI_1]
    walk_at "e0"
    exact ⟨by show 2 ≤ sizeLine; decide, one [tk "@", m] rfl⟩
  | flag m =>
    rw [show cdD (.flag m) = .tup [.str (Str.ofString "flag"), .str m] from rfl]
    walk_at "e0"
    rw [atI_z]
    walk_at "e0"
    unfold rd_atom_tokens_1
    walk_at "e0"
    rw [if_neg (by decide +kernel), e_next]
    unfold rd_atom_tokens_2
    walk_at "e0"
    rw [if_neg (by decide +kernel), e_next]
    unfold rd_atom_tokens_3
    walk_at "e0"
    rw [if_pos (by decide), atI_1]
    walk_at "e0"
    exact ⟨by show 3 ≤ sizeLine; decide, one [tk "ask", tk "is", m] rfl⟩
  | tag k m =>
    rw [show cdD (.tag k m) = .tup [.str (Str.ofString "tag"), .str (frT k), .str m] from rfl]
    walk_at "e0"
    rw [atI_z]
    walk_at "e0"
    unfold rd_atom_tokens_1
    walk_at "e0"
    rw [if_neg (by decide +kernel), e_next]
    unfold rd_atom_tokens_2
    walk_at "e0"
    rw [if_neg (by decide +kernel), e_next]
    unfold rd_atom_tokens_3
    walk_at "e0"
    rw [if_neg (by decide +kernel), e_next]
    unfold rd_atom_tokens_4
    walk_at "e0"
    rw [if_pos (by decide), atI_1]
    walk_at "e0"
    rw [atI_2]
    walk_at "e0"
    exact ⟨by show 3 ≤ sizeLine; decide, one [frT k, tk "is", m] rfl⟩
  | walk m o =>
    rw [show cdD (.walk m o) = .tup [.str (Str.ofString "walk"), .str m, .str o] from rfl]
    walk_at "e0"
    rw [atI_z]
    walk_at "e0"
    unfold rd_atom_tokens_1
    walk_at "e0"
    rw [if_neg (by decide +kernel), e_next]
    unfold rd_atom_tokens_2
    walk_at "e0"
    rw [if_neg (by decide +kernel), e_next]
    unfold rd_atom_tokens_3
    walk_at "e0"
    rw [if_neg (by decide +kernel), e_next]
    unfold rd_atom_tokens_4
    walk_at "e0"
    rw [if_neg (by decide +kernel), e_next]
    unfold rd_atom_tokens_5
    walk_at "e0"
    rw [if_pos (by decide), atI_1]
    walk_at "e0"
    rw [atI_2]
    walk_at "e0"
    exact ⟨by show 4 ≤ sizeLine; decide, one [tk "by", m, tk "to", o] rfl⟩
  | atm l r g =>
    obtain ⟨G1, G2, G3⟩ := G
    have et : cdD (.atm l r g) = .tup [.str (Str.ofString "atmost"), .str (sdS l), .str (sdS r), .int g] := rfl
    rw [et]
    walk_at "e0"
    rw [atI_z]
    walk_at "e0"
    unfold rd_atom_tokens_1
    walk_at "e0"
    rw [if_neg (by decide +kernel), e_next]
    unfold rd_atom_tokens_2
    walk_at "e0"
    rw [if_neg (by decide +kernel), e_next]
    unfold rd_atom_tokens_3
    walk_at "e0"
    rw [if_neg (by decide +kernel), e_next]
    unfold rd_atom_tokens_4
    walk_at "e0"
    rw [if_neg (by decide +kernel), e_next]
    unfold rd_atom_tokens_5
    walk_at "e0"
    rw [if_neg (by decide +kernel), e_next]
    unfold rd_atom_tokens_6
    walk_at "e0"
    rw [atI_3]
    walk_at "e0"
    unfold rd_atom_tokens_7
    walk_at "e0"
    have ls : ∀ s : Sd, (sdT s).length ≤ 3 := fun s => by cases s <;> simp [sdT]
    have lg : (gapT g).length ≤ 2 := by unfold gapT; split <;> simp
    have last : ∀ (pg : Addr) (h1 : MH), OV h h1 [(pg, .lst ((gapT g).map D.str))] → rd_atom_tokens_8 sp_term_tokens (endN Q) [some (.tup [.str (Str.ofString "atmost"), .str (sdS l), .str (sdS r), .int g]), some (.str (Str.ofString "atmost")), some (.int g), some (.ref pg)] h1 := fun pg h1 L1 => by
      unfold rd_atom_tokens_8
      walk_at "e0"
      rw [atI_1]
      walk_at "e0"
      refine ⟨l, rfl, G1, fun p2 np2 => ?_⟩
      have L2 := L1.new np2 (.lst ((sdT l).map D.str))
      generalize up h1 p2 _ = h2 at L2 ⊢
      refine ⟨by show 1 ≤ sizeLine; decide, fun p3 np3 => ?_⟩
      have L3 := L2.new np3 (.lst [.str (Str.ofString "<=")])
      have a1 := ls l
      have a2 := ls r
      refine add_at (L3.get 1 rfl) (L3.get 0 rfl) (by rw [List.length_map]; show _ + 1 ≤ _; omega) fun p4 np4 => ?_
      have L4 := (L3.new np4 (.lst ((sdT l).map D.str ++ [.str (Str.ofString "<=")]))).kp.kp
      generalize up _ p4 _ = h4 at L4 ⊢
      rw [atI_2]
      walk_at "e0"
      refine ⟨r, rfl, G2, fun p5 np5 => ?_⟩
      have L5 := L4.new np5 (.lst ((sdT r).map D.str))
      generalize up h4 p5 _ = h5 at L5 ⊢
      refine add_at (L5.get 1 rfl) (L5.get 0 rfl) (by rw [List.length_append, List.length_map, List.length_map]; show _ + 1 + _ ≤ _; omega) fun p6 np6 => ?_
      have L6 := (L5.new np6 (.lst (((sdT l).map D.str ++ [.str (Str.ofString "<=")]) ++ (sdT r).map D.str))).kp.kp
      generalize up h5 p6 _ = h6 at L6 ⊢
      refine add_at (L6.get 0 rfl) (L6.get 1 rfl) (by simp only [List.length_append, List.length_map, List.length_cons, List.length_nil]; omega) fun p7 np7 => ?_
      have L7 := L6.new np7 (.lst ((((sdT l).map D.str ++ [.str (Str.ofString "<=")]) ++ (sdT r).map D.str) ++ (gapT g).map D.str))
      generalize up h6 p7 _ = h7 at L7 ⊢
      rw [show (((sdT l).map D.str ++ [.str (Str.ofString "<=")]) ++ (sdT r).map D.str) ++ (gapT g).map D.str = (cdT (.atm l r g) 0).map D.str by simp [cdT, tk]] at L7
      exact L7.retN (List.mem_cons_self ..) fun m => q p7 m
    by_cases g0 : g = 0
    · rw [if_pos (decide_eq_true g0)]
      refine ⟨by show 0 ≤ sizeLine; decide, fun pg npg => last pg _ ?_⟩
      have L1 := OV.start.new npg (.lst [])
      rw [show gapT g = [] by unfold gapT; rw [if_pos g0]]
      exact L1
    · rw [if_neg (by simpa using g0)]
      have eg : gapT g = [if 0 < g then tk "+" else tk "-", numS g.natAbs] := by unfold gapT; rw [if_neg g0]
      have ea : (if g < 0 then -g else g) = ((g.natAbs : Nat) : Int) := by split <;> omega
      rw [ea]
      by_cases gp : 0 < g
      · rw [if_pos (decide_eq_true gp)]
        refine ⟨num_log G3, by show 2 ≤ sizeLine; decide, fun pg npg => last pg _ ?_⟩
        rw [eg, if_pos gp]
        exact OV.start.new npg _
      · rw [if_neg (by simpa using gp)]
        refine ⟨num_log G3, by show 2 ≤ sizeLine; decide, fun pg npg => last pg _ ?_⟩
        rw [eg, if_neg gp]
        exact OV.start.new npg _
theorem cdT_len : ∀ {w : Cd} (n : Nat), (cdT w n).length + 3 ≤ 12 * 2 ^ dpW w
  | .always, n => by show 1 + 3 ≤ 12 * 2 ^ 1; decide
  | .named m, n => by show 2 + 3 ≤ 12 * 2 ^ 1; decide
  | .flag m, n => by show 3 + 3 ≤ 12 * 2 ^ 1; decide
  | .tag k m, n => by show 3 + 3 ≤ 12 * 2 ^ 1; decide
  | .walk m o, n => by show 4 + 3 ≤ 12 * 2 ^ 1; decide
  | .atm l r g, n => by
    have ls : ∀ s : Sd, (sdT s).length ≤ 3 := fun s => by cases s <;> simp [sdT]
    have lg : (gapT g).length ≤ 2 := by unfold gapT; split <;> simp
    have a := ls l
    have b := ls r
    show (sdT l ++ tk "<=" :: (sdT r ++ gapT g)).length + 3 ≤ 12 * 2 ^ 1
    rw [List.length_append, List.length_cons, List.length_append]
    omega
  | .nt w, n => by
    have ih := cdT_len (w := w) 2
    show (tk "not" :: cdT w 2).length + 3 ≤ 12 * 2 ^ (dpW w + 1)
    rw [List.length_cons, Nat.pow_succ]
    have : 1 ≤ 2 ^ dpW w := Nat.one_le_two_pow
    omega
  | .bin o a b, n => by
    have pa : 2 ^ dpW a ≤ 2 ^ (Nat.max (dpW a) (dpW b)) := Nat.pow_le_pow_right (by decide) (Nat.le_max_left _ _)
    have pb : 2 ^ dpW b ≤ 2 ^ (Nat.max (dpW a) (dpW b)) := Nat.pow_le_pow_right (by decide) (Nat.le_max_right _ _)
    have le : ∀ l n (T : List Str), (enc l n T).length ≤ T.length + 2 := fun l n T => by unfold enc; split <;> simp
    show _ ≤ 12 * 2 ^ (Nat.max (dpW a) (dpW b) + 1)
    rw [Nat.pow_succ]
    generalize 2 ^ (Nat.max (dpW a) (dpW b)) = M at *
    cases o with
    | true =>
      have i1 := cdT_len (w := a) 1
      have i2 := cdT_len (w := b) 2
      have := le 1 n (cdT a 1 ++ tk "and" :: cdT b 2)
      show (enc 1 n (cdT a 1 ++ tk "and" :: cdT b 2)).length + 3 ≤ _
      rw [List.length_append, List.length_cons] at this
      omega
    | false =>
      have i1 := cdT_len (w := a) 0
      have i2 := cdT_len (w := b) 1
      have := le 0 n (cdT a 0 ++ tk "or" :: cdT b 1)
      show (enc 0 n (cdT a 0 ++ tk "or" :: cdT b 1)).length + 3 ≤ _
      rw [List.length_append, List.length_cons] at this
      omega
theorem cdT_le {w : Cd} (n : Nat) (d : dpW w ≤ 12) : (cdT w n).length ≤ 50000 := by
  have l := cdT_len (w := w) n
  have : 2 ^ dpW w ≤ 2 ^ 12 := Nat.pow_le_pow_right (by decide) d
  have : 2 ^ 12 = 4096 := by decide
  omega
def sp_cond_tokens : Nat → P1
  | 0 => fun _ _ _ => False
  | d + 1 => fun ds h Q => ∃ (w : Cd) (n : Nat), ds = [cdD w, .int n] ∧ dpW w ≤ d ∧ dpW w ≤ 12 ∧ CdG w ∧ n ≤ 2 ∧ ∀ p, h p = none → Q (.ref p) (up h p (.lst ((cdT w n).map D.str)))
theorem len_cond_tokens : ∀ d ds h Q, sp_cond_tokens d ds h Q → ds.length = 2
  | 0, _, _, _, z => z.elim
  | d + 1, ds, h, Q, ⟨_, _, e, _⟩ => by rw [e]; rfl
theorem dp_pos (w : Cd) : 1 ≤ dpW w := by cases w <;> simp [dpW]
theorem fact_level {w : Cd} (f : isFact w) (n : Nat) : cdT w n = cdT w 0 := by
  cases w with
  | nt c => exact f.elim
  | bin o a b => exact f.elim
  | _ => rfl
theorem cond_fact {Q : KD} {h : MH} {d n : Nat} {w : Cd} (G : CdG w) (f : isFact w) (q : ∀ p, h p = none → Q (.ref p) (up h p (.lst ((cdT w n).map D.str)))) : rd_cond_tokens sp_enclosed (sp_cond_tokens d) sp_atom_tokens (endN Q) [some (cdD w), some (.int n), none] h := by
  obtain ⟨r, er⟩ := cd_hd2 w
  have nh : hdS w ≠ Str.ofString "or" ∧ hdS w ≠ Str.ofString "and" ∧ hdS w ≠ Str.ofString "not" := by
    cases w with
    | nt c => exact f.elim
    | bin o a b => exact f.elim
    | always => exact ⟨(by decide +kernel : Str.ofString "always" ≠ Str.ofString "or"), (by decide +kernel : Str.ofString "always" ≠ Str.ofString "and"), (by decide +kernel : Str.ofString "always" ≠ Str.ofString "not")⟩
    | named m => exact ⟨(by decide +kernel : Str.ofString "named" ≠ Str.ofString "or"), (by decide +kernel : Str.ofString "named" ≠ Str.ofString "and"), (by decide +kernel : Str.ofString "named" ≠ Str.ofString "not")⟩
    | flag m => exact ⟨(by decide +kernel : Str.ofString "flag" ≠ Str.ofString "or"), (by decide +kernel : Str.ofString "flag" ≠ Str.ofString "and"), (by decide +kernel : Str.ofString "flag" ≠ Str.ofString "not")⟩
    | tag k m => exact ⟨(by decide +kernel : Str.ofString "tag" ≠ Str.ofString "or"), (by decide +kernel : Str.ofString "tag" ≠ Str.ofString "and"), (by decide +kernel : Str.ofString "tag" ≠ Str.ofString "not")⟩
    | walk m o => exact ⟨(by decide +kernel : Str.ofString "walk" ≠ Str.ofString "or"), (by decide +kernel : Str.ofString "walk" ≠ Str.ofString "and"), (by decide +kernel : Str.ofString "walk" ≠ Str.ofString "not")⟩
    | atm l r g => exact ⟨(by decide +kernel : Str.ofString "atmost" ≠ Str.ofString "or"), (by decide +kernel : Str.ofString "atmost" ≠ Str.ofString "and"), (by decide +kernel : Str.ofString "atmost" ≠ Str.ofString "not")⟩
  unfold rd_cond_tokens
  walk_at "e0"
  rw [er]
  walk_at "e0"
  rw [atI_z]
  walk_at "e0"
  unfold rd_cond_tokens_1
  walk_at "e0"
  rw [if_neg (by simpa using nh.1), e_next]
  unfold rd_cond_tokens_2
  walk_at "e0"
  rw [if_neg (by simpa using nh.2.1), e_next]
  unfold rd_cond_tokens_3
  walk_at "e0"
  rw [if_neg (by simpa using nh.2.2), e_next]
  unfold rd_cond_tokens_4
  walk_at "e0"
  rw [← er]
  rw [fact_level f n] at q
  exact ⟨w, rfl, G, f, fun p np => lh_of (q p np)⟩
theorem sat_cond_tokens : ∀ d ds h Q, sp_cond_tokens (d + 1) ds h Q → rd_cond_tokens sp_enclosed (sp_cond_tokens d) sp_atom_tokens (endN Q) (startD 3 ds) h := by
  rintro d ds h Q ⟨w, n, rfl, hd, h12, G, hn, q⟩
  show rd_cond_tokens sp_enclosed (sp_cond_tokens d) sp_atom_tokens (endN Q) [some (cdD w), some (.int n), none] h
  obtain ⟨d, rfl⟩ : ∃ d', d = d' + 1 := ⟨d - 1, by have := dp_pos w; omega⟩
  cases w with
  | always => exact cond_fact G trivial q
  | named m => exact cond_fact G trivial q
  | flag m => exact cond_fact G trivial q
  | tag k m => exact cond_fact G trivial q
  | walk m o => exact cond_fact G trivial q
  | atm l r g => exact cond_fact G trivial q
  | nt a =>
    have hd : dpW a + 1 ≤ d + 1 := hd
    have h12 : dpW a + 1 ≤ 12 := h12
    have la := cdT_le (w := a) 2 (by omega)
    unfold rd_cond_tokens
    walk_at "e0"
    rw [show cdD (.nt a) = .tup [.str (Str.ofString "not"), cdD a] from rfl]
    walk_at "e0"
    rw [atI_z]
    walk_at "e0"
    unfold rd_cond_tokens_1
    walk_at "e0"
    rw [if_neg (by decide +kernel), e_next]
    unfold rd_cond_tokens_2
    walk_at "e0"
    rw [if_neg (by decide +kernel), e_next]
    unfold rd_cond_tokens_3
    walk_at "e0"
    rw [if_pos (by decide)]
    refine ⟨by show 1 ≤ sizeLine; decide, fun p1 np1 => ?_⟩
    have L1 := OV.start.new np1 (.lst [.str (Str.ofString "not")])
    generalize up h p1 _ = h1 at L1 ⊢
    rw [atI_1]
    walk_at "e0"
    refine ⟨a, 2, rfl, by omega, by omega, G, by omega, fun p2 np2 => ?_⟩
    have L2 := L1.new np2 (.lst ((cdT a 2).map D.str))
    generalize up h1 p2 _ = h2 at L2 ⊢
    refine add_at (L2.get 1 rfl) (L2.get 0 rfl) (by rw [List.length_map]; show 1 + _ ≤ _; omega) fun p3 np3 => ?_
    have L3 := L2.new np3 (.lst ([.str (Str.ofString "not")] ++ (cdT a 2).map D.str))
    generalize up _ p3 _ = h3 at L3 ⊢
    exact L3.retN (List.mem_cons_self ..) fun m => q p3 m
  | bin o a b =>
    have m1 := Nat.le_max_left (dpW a) (dpW b)
    have m2 := Nat.le_max_right (dpW a) (dpW b)
    have hd : Nat.max (dpW a) (dpW b) + 1 ≤ d + 1 := hd
    have h12 : Nat.max (dpW a) (dpW b) + 1 ≤ 12 := h12
    have l3 : Nat.max (dpW a) (dpW b) = max (dpW a) (dpW b) := rfl
    obtain ⟨Ga, Gb⟩ := G
    cases o with
    | false =>
      have la := cdT_le (w := a) 0 (by omega)
      have lb := cdT_le (w := b) 1 (by omega)
      unfold rd_cond_tokens
      walk_at "e0"
      rw [show cdD (.bin false a b) = .tup [.str (Str.ofString "or"), cdD a, cdD b] from rfl]
      walk_at "e0"
      rw [atI_z]
      walk_at "e0"
      unfold rd_cond_tokens_1
      walk_at "e0"
      rw [if_pos (by decide), atI_1]
      walk_at "e0"
      refine ⟨a, 0, rfl, by omega, by omega, Ga, by omega, fun p1 np1 => ?_⟩
      have L1 := OV.start.new np1 (.lst ((cdT a 0).map D.str))
      generalize up h p1 (.lst ((cdT a 0).map D.str)) = h1 at L1 ⊢
      refine ⟨by show 1 ≤ sizeLine; decide, fun p2 np2 => ?_⟩
      have L2 := L1.new np2 (.lst [.str (Str.ofString "or")])
      refine add_at (L2.get 1 rfl) (L2.get 0 rfl) (by rw [List.length_map]; show _ + 1 ≤ _; omega) fun p3 np3 => ?_
      have L3 := (L2.new np3 (.lst ((cdT a 0).map D.str ++ [.str (Str.ofString "or")]))).kp.kp
      generalize up _ p3 _ = h3 at L3 ⊢
      rw [atI_2]
      walk_at "e0"
      refine ⟨b, 1, rfl, by omega, by omega, Gb, by omega, fun p4 np4 => ?_⟩
      have L4 := L3.new np4 (.lst ((cdT b 1).map D.str))
      generalize up h3 p4 (.lst ((cdT b 1).map D.str)) = h4 at L4 ⊢
      refine add_at (L4.get 1 rfl) (L4.get 0 rfl) (by rw [List.length_append, List.length_map, List.length_map]; show _ + 1 + _ ≤ _; omega) fun p5 np5 => ?_
      have L5 := L4.new np5 (.lst (((cdT a 0).map D.str ++ [.str (Str.ofString "or")]) ++ (cdT b 1).map D.str))
      generalize up _ p5 _ = h5 at L5 ⊢
      rw [show ((cdT a 0).map D.str ++ [.str (Str.ofString "or")]) ++ (cdT b 1).map D.str = (cdT a 0 ++ tk "or" :: cdT b 1).map D.str by simp [tk]] at L5
      exact enc_at (l := 0) L5 (by rw [List.length_append, List.length_cons]; omega) rfl q
    | true =>
      have la := cdT_le (w := a) 1 (by omega)
      have lb := cdT_le (w := b) 2 (by omega)
      unfold rd_cond_tokens
      walk_at "e0"
      rw [show cdD (.bin true a b) = .tup [.str (Str.ofString "and"), cdD a, cdD b] from rfl]
      walk_at "e0"
      rw [atI_z]
      walk_at "e0"
      unfold rd_cond_tokens_1
      walk_at "e0"
      rw [if_neg (by decide +kernel), e_next]
      unfold rd_cond_tokens_2
      walk_at "e0"
      rw [if_pos (by decide), atI_1]
      walk_at "e0"
      refine ⟨a, 1, rfl, by omega, by omega, Ga, by omega, fun p1 np1 => ?_⟩
      have L1 := OV.start.new np1 (.lst ((cdT a 1).map D.str))
      generalize up h p1 (.lst ((cdT a 1).map D.str)) = h1 at L1 ⊢
      refine ⟨by show 1 ≤ sizeLine; decide, fun p2 np2 => ?_⟩
      have L2 := L1.new np2 (.lst [.str (Str.ofString "and")])
      refine add_at (L2.get 1 rfl) (L2.get 0 rfl) (by rw [List.length_map]; show _ + 1 ≤ _; omega) fun p3 np3 => ?_
      have L3 := (L2.new np3 (.lst ((cdT a 1).map D.str ++ [.str (Str.ofString "and")]))).kp.kp
      generalize up _ p3 _ = h3 at L3 ⊢
      rw [atI_2]
      walk_at "e0"
      refine ⟨b, 2, rfl, by omega, by omega, Gb, by omega, fun p4 np4 => ?_⟩
      have L4 := L3.new np4 (.lst ((cdT b 2).map D.str))
      generalize up h3 p4 (.lst ((cdT b 2).map D.str)) = h4 at L4 ⊢
      refine add_at (L4.get 1 rfl) (L4.get 0 rfl) (by rw [List.length_append, List.length_map, List.length_map]; show _ + 1 + _ ≤ _; omega) fun p5 np5 => ?_
      have L5 := L4.new np5 (.lst (((cdT a 1).map D.str ++ [.str (Str.ofString "and")]) ++ (cdT b 2).map D.str))
      generalize up _ p5 _ = h5 at L5 ⊢
      rw [show ((cdT a 1).map D.str ++ [.str (Str.ofString "and")]) ++ (cdT b 2).map D.str = (cdT a 1 ++ tk "and" :: cdT b 2).map D.str by simp [tk]] at L5
      exact enc_at (l := 1) L5 (by rw [List.length_append, List.length_cons]; omega) rfl q
end
section
/-! lines; write_cond; write -/
def sp_test_tokens : P1 := fun _ _ _ => False
def sp_table_tokens : P1 := fun _ _ _ => False
def sp_walk_tokens : Nat → P1 := fun _ _ _ _ => False
def sp_any_walk_tokens : P1 := fun _ _ _ => False
def sp_act_tokens : P1 := fun _ _ _ => False
def sp_policy_tokens : P1 := fun _ _ _ => False
theorem len_test_tokens : ∀ ds h Q, sp_test_tokens ds h Q → ds.length = 1 := fun _ _ _ z => z.elim
theorem len_table_tokens : ∀ ds h Q, sp_table_tokens ds h Q → ds.length = 1 := fun _ _ _ z => z.elim
theorem len_walk_tokens : ∀ n ds h Q, sp_walk_tokens n ds h Q → ds.length = 2 := fun _ _ _ _ z => z.elim
theorem len_any_walk_tokens : ∀ ds h Q, sp_any_walk_tokens ds h Q → ds.length = 1 := fun _ _ _ z => z.elim
theorem len_act_tokens : ∀ ds h Q, sp_act_tokens ds h Q → ds.length = 1 := fun _ _ _ z => z.elim
theorem len_policy_tokens : ∀ ds h Q, sp_policy_tokens ds h Q → ds.length = 1 := fun _ _ _ z => z.elim
theorem sat_test_tokens : ∀ ds h Q, sp_test_tokens ds h Q → rd_test_tokens (endN Q) (startD 4 ds) h := fun _ _ _ z => z.elim
theorem sat_table_tokens : ∀ ds h Q, sp_table_tokens ds h Q → rd_table_tokens (endN Q) (startD 5 ds) h := fun _ _ _ z => z.elim
theorem sat_walk_tokens : ∀ n ds h Q, sp_walk_tokens (n + 1) ds h Q → rd_walk_tokens sp_enclosed (sp_walk_tokens n) sp_test_tokens (endN Q) (startD 3 ds) h := fun _ _ _ _ z => z.elim
theorem sat_any_walk_tokens : ∀ ds h Q, sp_any_walk_tokens ds h Q → rd_any_walk_tokens sp_table_tokens (sp_walk_tokens 1) (endN Q) (startD 1 ds) h := fun _ _ _ z => z.elim
theorem sat_act_tokens : ∀ ds h Q, sp_act_tokens ds h Q → rd_act_tokens (endN Q) (startD 3 ds) h := fun _ _ _ z => z.elim
theorem sat_policy_tokens : ∀ ds h Q, sp_policy_tokens ds h Q → rd_policy_tokens sp_act_tokens (sp_cond_tokens 14) (endN Q) (startD 10 ds) h := fun _ _ _ z => z.elim
def CdW (w : Cd) : Prop := CdG w ∧ dpW w ≤ 12
theorem cdW_len {w : Cd} (F : CdW w) : (cdT w 0).length ≤ 60000 := Nat.le_trans (cdT_le 0 F.2) (by decide)
def sp_line_tokens : P1 := fun ds h Q => ∃ (nm : Str) (x : Cd), ds = [.tup [.str (Str.ofString "when"), .str nm, cdD x]] ∧ CdW x ∧ ∀ p, h p = none → Q (.ref p) (up h p (.lst (([tk "when", nm, tk "="] ++ cdT x 0).map D.str)))
theorem len_line_tokens : ∀ ds h Q, sp_line_tokens ds h Q → ds.length = 1 := fun ds h Q ⟨_, _, e, _⟩ => by rw [e]; rfl
theorem sat_line_tokens : ∀ ds h Q, sp_line_tokens ds h Q → rd_line_tokens sp_test_tokens sp_any_walk_tokens (sp_cond_tokens 14) sp_policy_tokens (endN Q) (startD 2 ds) h := by
  rintro ds h Q ⟨nm, x, rfl, F, q⟩
  show rd_line_tokens sp_test_tokens sp_any_walk_tokens (sp_cond_tokens 14) sp_policy_tokens (endN Q) [some (.tup [.str (Str.ofString "when"), .str nm, cdD x]), none] h
  have hl := cdW_len F
  unfold rd_line_tokens
  walk_at "e0"
  rw [atI_z]
  walk_at "e0"
  unfold rd_line_tokens_1
  walk_at "e0"
  refine ⟨by simp [pure?], pure_res _, ?_⟩
  rw [any_res, show (ck_NAME_LINES.any fun z => decide (z = Str.ofString "when")) = false by decide +kernel, if_neg (by decide), e_next]
  unfold rd_line_tokens_2
  walk_at "e0"
  refine ⟨by show 2 ≤ sizeLine; decide, ?_⟩
  refine ⟨by simp [pure?], pure_res [Str.ofString "tag", Str.ofString "number"], ?_⟩
  have e2 := any_res [Str.ofString "tag", Str.ofString "number"] (Str.ofString "when")
  rw [show [Str.ofString "tag", Str.ofString "number"].map D.str = [.str (Str.ofString "tag"), .str (Str.ofString "number")] from rfl] at e2
  rw [e2, show ([Str.ofString "tag", Str.ofString "number"].any fun z => decide (z = Str.ofString "when")) = false by decide +kernel, if_neg (by decide), e_next]
  unfold rd_line_tokens_3
  walk_at "e0"
  rw [if_neg (by decide +kernel), e_next]
  unfold rd_line_tokens_4
  walk_at "e0"
  rw [if_neg (by decide +kernel), e_next]
  unfold rd_line_tokens_5
  walk_at "e0"
  rw [if_neg (by decide +kernel), e_next]
  unfold rd_line_tokens_6
  walk_at "e0"
  rw [if_pos (by decide), atI_1]
  walk_at "e0"
  refine ⟨by show 3 ≤ sizeLine; decide, fun p1 np1 => ?_⟩
  have L1 := OV.start.new np1 (.lst [.str (Str.ofString "when"), .str nm, .str (Str.ofString "=")])
  generalize up h p1 _ = h1 at L1 ⊢
  rw [atI_2]
  walk_at "e0"
  refine ⟨x, 0, rfl, show dpW x ≤ 13 by have := F.2; omega, F.2, F.1, by decide, fun p2 np2 => ?_⟩
  have L2 := L1.new np2 (.lst ((cdT x 0).map D.str))
  refine add_at (L2.get 1 rfl) (L2.get 0 rfl) (by rw [List.length_map]; show 3 + _ ≤ _; omega) fun p3 np3 => ?_
  have L3 := L2.new np3 (.lst ([.str (Str.ofString "when"), .str nm, .str (Str.ofString "=")] ++ (cdT x 0).map D.str))
  generalize up _ p3 _ = h3 at L3 ⊢
  rw [show [.str (Str.ofString "when"), .str nm, .str (Str.ofString "=")] ++ (cdT x 0).map D.str = ([tk "when", nm, tk "="] ++ cdT x 0).map D.str by simp [tk]] at L3
  exact L3.retN (List.mem_cons_self ..) fun m => q p3 m
/-! joined texts -/
def jnS (T : List Str) : Str := Txt.join (Str.ofString " ") T
theorem strs_of : ∀ T : List Str, strsOf (T.map D.str) = some T
  | [] => rfl
  | z :: T => by
    have := strs_of T
    simp [strsOf, this]
theorem join_at {a : Str} {T : List Str} {p : Addr} {h : MH} {Q : KD} (e : h p = some (.lst (T.map D.str))) (sz : (T.map (·.length)).sum + T.length * a.length ≤ sizeLine) (q : Q (.str (Txt.join a T)) h) : seqK (joinK a h Q) (seqOf h (.ref p)) := by
  show seqK _ (seqO (h p))
  rw [e]
  exact ⟨T, strs_of T, sz, q⟩
theorem jn_len (y : Str) : ∀ T : List Str, (Str.join y T).length ≤ (T.map (·.length)).sum + T.length * y.length
  | [] => Nat.zero_le _
  | [x] => by show x.length ≤ (x.length + 0) + 1 * y.length; omega
  | x :: z :: r => by
    have ih := jn_len y (z :: r)
    show (x ++ y ++ Str.join y (z :: r)).length ≤ _
    rw [Str.length_append, Str.length_append, List.map_cons, List.sum_cons, List.length_cons, Nat.succ_mul]
    omega
theorem jn_app (y : Str) : ∀ (A B : List Str), A ≠ [] → B ≠ [] → Str.join y (A ++ B) = Str.join y A ++ (y ++ Str.join y B)
  | [], _, h, _ => (h rfl).elim
  | [x], [], _, h => (h rfl).elim
  | [x], b :: B, _, _ => by
    show x ++ y ++ Str.join y (b :: B) = x ++ (y ++ Str.join y (b :: B))
    rw [Str.append_assoc]
  | x :: z :: r, B, _, hb => by
    show x ++ y ++ Str.join y ((z :: r) ++ B) = x ++ y ++ Str.join y (z :: r) ++ (y ++ Str.join y B)
    rw [jn_app y (z :: r) B (by simp) hb]
    simp only [Str.append_assoc]
theorem sp_len : (Str.ofString " ").length = 1 := by decide +kernel
theorem mx_len : 5000000 ≤ sizeLine := by decide
def sp_write_cond : P1 := fun ds h Q => ∃ x : Cd, ds = [cdD x] ∧ CdW x ∧ (∀ z ∈ cdT x 0, z.length ≤ 20) ∧ Q (.str (jnS (cdT x 0))) h
theorem len_write_cond : ∀ ds h Q, sp_write_cond ds h Q → ds.length = 1 := fun ds h Q ⟨_, e, _⟩ => by rw [e]; rfl
theorem sum_len : ∀ {T : List Str}, (∀ z ∈ T, z.length ≤ 20) → (T.map (·.length)).sum ≤ 20 * T.length
  | [], _ => by simp
  | z :: T, h => by
    have h1 := h z (by simp)
    have h2 := sum_len (T := T) fun y hy => h y (by simp [hy])
    rw [List.map_cons, List.sum_cons, List.length_cons]
    omega
theorem sat_write_cond : ∀ ds h Q, sp_write_cond ds h Q → rd_write_cond (sp_cond_tokens 14) (endN Q) (startD 1 ds) h := by
  rintro ds h Q ⟨x, rfl, F, hz, q⟩
  show rd_write_cond (sp_cond_tokens 14) (endN Q) [some (cdD x)] h
  have hl := cdW_len F
  have hs := sum_len hz
  unfold rd_write_cond
  walk_at "e0"
  refine ⟨⟨_, rfl⟩, x, 0, rfl, show dpW x ≤ 13 by have := F.2; omega, F.2, F.1, by decide, fun p np => ?_⟩
  refine join_at up_same (by rw [sp_len]; have := mx_len; omega) ?_
  exact lh_le (le.up np) q
def sp_write : P1 := fun ds h Q => ∃ (nm : Str) (x : Cd), ds = [.tup [.tup [.str (Str.ofString "when"), .str nm, cdD x]]] ∧ CdW x ∧ (∀ z ∈ cdT x 0, z.length ≤ 20) ∧ nm.length ≤ 20 ∧ Q (.str (jnS ([tk "when", nm, tk "="] ++ cdT x 0 ++ [tk ";"]) ++ Str.ofString "\n")) h
theorem len_write : ∀ ds h Q, sp_write ds h Q → ds.length = 1 := fun ds h Q ⟨_, _, e, _⟩ => by rw [e]; rfl
theorem sat_write : ∀ ds h Q, sp_write ds h Q → rd_write sp_line_tokens (endN Q) (startD 2 ds) h := by
  rintro ds h Q ⟨nm, x, rfl, F, hz, hn, q⟩
  show rd_write sp_line_tokens (endN Q) [some (.tup [.tup [.str (Str.ofString "when"), .str nm, cdD x]]), none] h
  have hl := cdW_len F
  have hs := sum_len hz
  unfold rd_write
  walk_at "e0"
  refine ⟨⟨_, rfl⟩, ?_⟩
  have e1 : (Str.ofString "when").length = 4 := by decide +kernel
  have e2 : (Str.ofString "=").length = 1 := by decide +kernel
  have e3 : (Str.ofString ";").length = 1 := by decide +kernel
  have e4 : (Str.ofString "\n").length = 1 := by decide +kernel
  have lj : (jnS ([tk "when", nm, tk "="] ++ cdT x 0 ++ [tk ";"])).length ≤ 4000000 := by
    unfold jnS
    rw [TL.join_eq]
    refine Nat.le_trans (jn_len _ _) ?_
    rw [sp_len]
    simp only [List.map_append, List.map_cons, List.map_nil, List.sum_append, List.sum_cons, List.sum_nil, List.length_append, List.length_cons, List.length_nil, tk, e1, e2, e3]
    omega
  refine lcT_t [x] (fun x => .tup [.str (Str.ofString "when"), .str nm, cdD x]) (fun x => .str (jnS ([tk "when", nm, tk "="] ++ cdT x 0 ++ [tk ";"]) ++ Str.ofString "\n")) rfl (by show 1 ≤ sizeLine; decide) trivial (fun y hy Q' hQ => ?_) fun p np => ?_
  · rw [List.mem_singleton.mp hy] at hQ ⊢
    walk_at "e0"
    refine ⟨⟨_, rfl⟩, nm, x, rfl, F, fun p1 np1 => ?_⟩
    have L1 := OV.start.new np1 (.lst (([tk "when", nm, tk "="] ++ cdT x 0).map D.str))
    generalize up h p1 _ = h1 at L1 ⊢
    refine ⟨by show 1 ≤ sizeLine; decide, fun p2 np2 => ?_⟩
    have L2 := L1.new np2 (.lst [.str (Str.ofString ";")])
    refine add_at (L2.get 1 rfl) (L2.get 0 rfl) (by rw [List.length_map, List.length_append]; show 3 + _ + 1 ≤ _; omega) fun p3 np3 => ?_
    have L3 := L2.new np3 (.lst (([tk "when", nm, tk "="] ++ cdT x 0).map D.str ++ [.str (Str.ofString ";")]))
    generalize up _ p3 _ = h3 at L3 ⊢
    rw [show ([tk "when", nm, tk "="] ++ cdT x 0).map D.str ++ [.str (Str.ofString ";")] = ([tk "when", nm, tk "="] ++ cdT x 0 ++ [tk ";"]).map D.str by simp [tk]] at L3
    refine join_at (L3.get 0 rfl) ?_ ?_
    · rw [sp_len]
      have := mx_len
      simp only [List.map_append, List.map_cons, List.map_nil, List.sum_append, List.sum_cons, List.sum_nil, List.length_append, List.length_cons, List.length_nil, tk, e1, e2, e3]
      omega
    · walk_at "e0"
      refine ⟨?_, hQ _ L3.ext⟩
      have := mx_len
      rw [e4]
      show (jnS ([tk "when", nm, tk "="] ++ cdT x 0 ++ [tk ";"])).length + 1 ≤ _
      omega
  · refine join_at (T := [jnS ([tk "when", nm, tk "="] ++ cdT x 0 ++ [tk ";"]) ++ Str.ofString "\n"]) up_same ?_ ?_
    · have := mx_len
      show ((jnS ([tk "when", nm, tk "="] ++ cdT x 0 ++ [tk ";"]) ++ Str.ofString "\n").length + 0) + 1 * (Str.ofString "").length ≤ _
      rw [Str.length_append, e4, show (Str.ofString "").length = 0 by decide +kernel]
      omega
    · rw [TL.join_eq]
      exact lh_le (le.up np) q
/-- what write tells of a walk's line -/
theorem line_eq {nm : Str} {T : List Str} (hT : T ≠ []) : jnS ([tk "when", nm, tk "="] ++ T ++ [tk ";"]) ++ Str.ofString "\n" = Str.ofString "when " ++ nm ++ Str.ofString " = " ++ jnS T ++ Str.ofString " ;\n" := by
  unfold jnS
  rw [TL.join_eq, TL.join_eq, jn_app _ _ _ (by simp) (by simp), jn_app _ _ _ (by simp) hT]
  show (tk "when" ++ Str.ofString " " ++ (nm ++ Str.ofString " " ++ tk "=") ++ (Str.ofString " " ++ Str.join (Str.ofString " ") T)) ++ (Str.ofString " " ++ tk ";") ++ Str.ofString "\n" = _
  have a1 : Str.ofString "when " = tk "when" ++ Str.ofString " " := by decide +kernel
  have a2 : Str.ofString " = " = Str.ofString " " ++ (tk "=" ++ Str.ofString " ") := by decide +kernel
  have a3 : Str.ofString " ;\n" = Str.ofString " " ++ (tk ";" ++ Str.ofString "\n") := by decide +kernel
  rw [a1, a2, a3]
  simp only [Str.append_assoc]
theorem split_jn {T : List Str} (hT : T ≠ []) (h : ∀ z ∈ T, 32 ∉ z.cps.toList) : Txt.split (jnS T) (Str.ofString " ") = T :=
  TL.split_join (y := Str.ofString " ") (s := 32) (S := []) (by decide +kernel) (by decide +kernel) hT h
end
section
/-! drawn names -/
/-- one sign of the alphabet, then at most seven signs -/
structure Wd (s : Str) (n : Nat) : Prop where
  hd : ∃ c r, s.cps.toList = c :: r ∧ c ∈ abcL ∧ r.length ≤ n
  all : ∀ c ∈ s.cps.toList, c ∈ abnL
theorem wd_gd {s : Str} (W : Wd s 7) (z : cutS s none (some 2) ≠ Str.ofString "zz") (n : s ∉ resL) : gdN s = true := by
  obtain ⟨c, r, e, hc, hr⟩ := W.hd
  have l : s.length = r.length + 1 := by
    have : s.cps.toList.length = s.length := Array.length_toList
    rw [e] at this
    exact this.symm
  unfold gdN
  rw [decide_eq_true (show 1 ≤ s.length by omega), decide_eq_true (show s.length ≤ 8 by omega), decide_eq_false z, e]
  have h1 : (resL.any fun z => decide (z = s)) = false := by
    rw [List.any_eq_false]
    intro y hy q
    rw [of_decide_eq_true q] at hy
    exact n hy
  rw [h1]
  show (true && (true && (true && (true && (inS ⟨#[c]⟩ abcS && (c :: r).all fun c => inS ⟨#[c]⟩ abnS))))) = true
  rw [inS_one, abc_eq, decide_eq_true hc]
  simp only [Bool.true_and]
  rw [List.all_eq_true]
  intro x hx
  rw [inS_one, abn_eq, decide_eq_true_eq]
  exact W.all x (by rw [e]; exact hx)
theorem gd_nb {s : Str} (g : gdN s = true) : 32 ∉ s.cps.toList := fun h => absurd ((gd_facts g).2 32 h) (by decide)
def firstL : List Str := ["then", "star", "plus", "maybe", "upto", "step", "named", "atmost", "of", "all", "none", "z", "a", "b0"].map Str.ofString
theorem first_gd : ∀ s ∈ firstL, gdN s = true := by
  have e : (firstL.all fun s => gdN s) = true := by decide +kernel
  exact fun s hs => List.all_eq_true.mp e s hs
theorem res_gd : ∀ s ∈ resL, gdN (cutS s none (some (-1))) = true ∧ gdN (Str.ofString "z" ++ s) = true ∧ gdN (s ++ Str.ofString "s") = true ∧ gdN (s ++ Str.ofString "7") = true ∧ gdN (s ++ Str.ofString "0") = true ∧ s.length ≤ 20 := by
  have e : (resL.all fun s => gdN (cutS s none (some (-1))) && (gdN (Str.ofString "z" ++ s) && (gdN (s ++ Str.ofString "s") && (gdN (s ++ Str.ofString "7") && (gdN (s ++ Str.ofString "0") && decide (s.length ≤ 20)))))) = true := by decide +kernel
  intro s hs
  have := List.all_eq_true.mp e s hs
  simpa only [Bool.and_eq_true, decide_eq_true_eq] using this
theorem Wd.one {s : Str} {n c : Nat} (W : Wd s n) (hc : c ∈ abnL) : Wd (s ++ ⟨#[c]⟩) (n + 1) := by
  obtain ⟨⟨d, r, e, hd, hr⟩, al⟩ := W
  have es : (s ++ ⟨#[c]⟩ : Str).cps.toList = d :: (r ++ [c]) := by
    rw [cps_app, e]
    rfl
  refine ⟨⟨d, r ++ [c], es, hd, by simp; omega⟩, fun x hx => ?_⟩
  rw [es] at hx
  rcases List.mem_cons.mp hx with rfl | hx
  · exact al _ (by rw [e]; simp)
  · rcases List.mem_append.mp hx with hx | hx
    · exact al x (by rw [e]; simp [hx])
    · rw [List.mem_singleton.mp hx]; exact hc
theorem Wd.len {s : Str} {n : Nat} (W : Wd s n) : s.length ≤ n + 1 := by
  obtain ⟨⟨d, r, e, hd, hr⟩, al⟩ := W
  have : s.cps.toList.length = s.length := Array.length_toList
  rw [e] at this
  simp at this
  omega
theorem wd_zz {s : Str} {n : Nat} (W : Wd s n) (hn : n ≤ 7) : Wd (Str.ofString "y" ++ cutS s (some 1) none) 7 ∧ cutS (Str.ofString "y" ++ cutS s (some 1) none) none (some 2) ≠ Str.ofString "zz" := by
  obtain ⟨⟨d, r, e, hd, hr⟩, al⟩ := W
  have ln : s.length = r.length + 1 := by
    have : s.cps.toList.length = s.length := Array.length_toList
    rw [e] at this
    exact this.symm
  have ec : (cutS s (some 1) none).cps.toList = r := by
    show ((s.cps.toList.drop (HT.sIx s.length 0 (some ((1 : Nat) : Int)))).take _) = r
    rw [HT.sIx_nat, ln, Nat.min_eq_left (by omega), e]
    show r.take (r.length + 1 - 1) = r
    rw [Nat.add_sub_cancel, List.take_length]
  have es : (Str.ofString "y" ++ cutS s (some 1) none).cps.toList = 121 :: r := by
    rw [cps_app, ec, show (Str.ofString "y").cps.toList = [121] by decide +kernel]
    rfl
  refine ⟨⟨⟨121, r, es, by decide, by omega⟩, fun x hx => ?_⟩, fun z => ?_⟩
  · rw [es] at hx
    rcases List.mem_cons.mp hx with rfl | hx
    · decide
    · exact al x (by rw [e]; simp [hx])
  · have z2 := congrArg (fun s : Str => s.cps.toList) z
    have z3 : ((Str.ofString "y" ++ cutS s (some 1) none).cps.toList.drop 0).take (HT.sIx (Str.ofString "y" ++ cutS s (some 1) none).length (Str.ofString "y" ++ cutS s (some 1) none).length (some ((2 : Nat) : Int)) - 0) = (Str.ofString "zz").cps.toList := z2
    rw [es, show (Str.ofString "zz").cps.toList = [122, 122] by decide +kernel, HT.sIx_nat] at z3
    generalize min 2 (Str.ofString "y" ++ cutS s (some 1) none).length - 0 = k at z3
    cases k with
    | zero => simp at z3
    | succ k => simp at z3
/-- the end of a drawn word -/
theorem word_6 {Q : KD} {h hh : MH} {a c : Addr} {cs : List Int} {ws : List (Addr × MO)} {s : Str} {n : Nat} {x1 x2 x4 x5 : Option D} (L : LV h a c cs hh ws) (W : Wd s n) (hn : n ≤ 7) (q : ∀ (s : Str) (o : MO), gdN s = true → DrO c o → Q (.str s) (up h a o)) : rd__law_word_6 sp__law_draw sp__law_pick sp__law_reserved (endN Q) [some (.ref a), x1, x2, some (.str s), x4, x5] hh := by
  have mx := mx_len
  have l0 : (Str.ofString "0").length = 1 := by decide +kernel
  have ly : (Str.ofString "y").length = 1 := by decide +kernel
  have last : ∀ s : Str, Wd s 7 → cutS s none (some 2) ≠ Str.ofString "zz" → rd__law_word_7 sp__law_draw sp__law_pick sp__law_reserved (endN Q) [some (.ref a), x1, x2, some (.str s), x4, x5] hh := fun s W z => by
    have ls := W.len
    unfold rd__law_word_7
    walk_at "e0"
    refine ⟨rfl, fun p np => ?_⟩
    have L2 := L.new np (.lst (resL.map D.str))
    walk_at "e0"
    rw [up_same, v_inO]
    refine in_txt ?_
    by_cases m : s ∈ resL
    · have e : (resL.any fun z => decide (z = s)) = true := List.any_eq_true.mpr ⟨s, m, decide_eq_true rfl⟩
      rw [e, if_pos rfl]
      exact ⟨by rw [l0]; omega, L2.ret fun o k => q _ o (res_gd s m).2.2.2.2.1 k⟩
    · have e : (resL.any fun z => decide (z = s)) = false := by
        rw [List.any_eq_false]
        intro y hy k
        rw [of_decide_eq_true k] at hy
        exact m hy
      rw [e, if_neg (by decide)]
      exact L2.ret fun o k => q _ o (wd_gd W z m) k
  have W7 : Wd s 7 := ⟨let ⟨c, r, e, hc, hr⟩ := W.hd; ⟨c, r, e, hc, by omega⟩, W.all⟩
  unfold rd__law_word_6
  walk_at "e0"
  by_cases z : cutS s none (some 2) = Str.ofString "zz"
  · rw [if_pos (decide_eq_true z)]
    obtain ⟨W1, z1⟩ := wd_zz W hn
    have := cutS_length s (some 1) none
    have := W.len
    refine ⟨by rw [ly]; omega, ?_⟩
    exact last _ W1 z1
  · rw [if_neg (by simpa using z), e_next]
    exact last s W7 z
theorem word_loop {Q : KD} {h hh : MH} {a c : Addr} {cs : List Int} {ws : List (Addr × MO)} {s0 : Str} {n : Nat} {x1 x2 x5 : Option D} (L : LV h a c cs hh ws) (W : Wd s0 0) (hn : n ≤ 7) (q : ∀ (s : Str) (o : MO), gdN s = true → DrO c o → Q (.str s) (up h a o)) (D0 : Nd) (hD : D0.nx = rd__law_word_6 sp__law_draw sp__law_pick sp__law_reserved (endN Q)) :
    forT (rgD 0 ((n : Nat) : Int).toNat) (fun _ => True) (gN 5) (rd__law_word_b1 sp__law_draw sp__law_pick sp__law_reserved) D0 [some (.ref a), x1, x2, some (.str s0), some (.str (Str.ofString "abcdefghijklmnopqrstuvwxyz0123456789")), x5] hh := by
  refine ⟨fun i σ hh => ∃ (s : Str) (x5 : Option D), LV h a c cs hh ws ∧ Wd s i ∧ i ≤ n ∧ σ = [some (.ref a), x1, x2, some (.str s), some (.str (Str.ofString "abcdefghijklmnopqrstuvwxyz0123456789")), x5], Lw.of ⟨s0, x5, L, W, Nat.zero_le _, rfl⟩, fun _ _ _ _ => trivial, ?_, ?_⟩
  · rintro i x σ hh hx ⟨s, x5, L, W, hi0, rfl⟩
    obtain ⟨hi, rfl⟩ := rg_at hx
    walk_at "e0"
    unfold rd__law_word_b1
    walk_at "e0"
    refine L.draw (by decide) (by decide) fun r2 h2 r20 r21 L2 => ?_
    obtain ⟨j, rfl⟩ := Int.eq_ofNat_of_zero_le r20
    have hj : j < abnL.length := by show j < 36; omega
    have ej : (Str.ofString "abcdefghijklmnopqrstuvwxyz0123456789").cps.toList[j]? = some abnL[j] := by
      rw [show (Str.ofString "abcdefghijklmnopqrstuvwxyz0123456789").cps.toList = abnL by decide +kernel, List.getElem?_eq_getElem hj]
    walk_at "e0"
    rw [atI_of rfl ej]
    walk_at "e0"
    have := W.len
    have := mx_len
    refine ⟨by show s.length + 1 ≤ _; omega, ?_⟩
    exact Lw.of ⟨_, _, L2, W.one (List.getElem_mem hj), by omega, rfl⟩
  · rintro σ hh ⟨s, x5, L, W, hi, rfl⟩
    rw [hD]
    exact word_6 L W (by rw [rg_len]; exact hn) q
def sp__law_word : P1 := fun ds h Q => ∃ (a c : Addr) (cs : List Int), ds = [.ref a] ∧ Dr a c cs h ∧ ∀ (s : Str) (o : MO), gdN s = true → DrO c o → Q (.str s) (up h a o)
theorem len__law_word : ∀ ds h Q, sp__law_word ds h Q → ds.length = 1 := fun ds h Q ⟨_, _, _, e, _⟩ => by rw [e]; rfl
theorem sat__law_word : ∀ ds h Q, sp__law_word ds h Q → rd__law_word sp__law_draw sp__law_pick sp__law_reserved (endN Q) (startD 6 ds) h := by
  rintro ds h Q ⟨a, c, cs, rfl, d, q⟩
  have L0 := LV.start d
  show rd__law_word sp__law_draw sp__law_pick sp__law_reserved (endN Q) [some (.ref a), none, none, none, none, none] h
  have fin : ∀ (s : Str) (hh : MH) (ws : List (Addr × MO)), gdN s = true → LV h a c cs hh ws → Lh Q (.str s) hh := fun s hh ws g L => L.ret fun o k => q s o g k
  unfold rd__law_word
  walk_at "e0"
  refine L0.draw (by decide) (by decide) fun r h1 r0 r1 L1 => ?_
  unfold rd__law_word_1
  walk_at "e0"
  by_cases z0 : r = 0
  · rw [if_pos (decide_eq_true z0)]
    refine ⟨⟨_, rfl⟩, ?_⟩
    rw [e_c, v_split]
    refine ⟨by decide +kernel, by decide +kernel, ?_⟩
    rw [show Txt.split (Str.ofString "then star plus maybe upto step named atmost of all none z a b0") (Str.ofString " ") = firstL by decide +kernel]
    refine ⟨by decide +kernel, fun p np => ?_⟩
    have L2 := L1.new np (.lst (firstL.map D.str))
    refine L2.pick (L2.get 0 rfl) (L2.na (List.mem_cons_self ..)) (by decide) (by decide) fun x hx h2 L3 => ?_
    obtain ⟨s, hs, rfl⟩ := List.mem_map.mp hx
    exact fin s h2 _ (first_gd s hs) L3
  rw [if_neg (by simpa using z0), e_next]
  unfold rd__law_word_2
  walk_at "e0"
  by_cases z1 : r = 1
  · rw [if_pos (decide_eq_true z1)]
    refine ⟨rfl, fun p np => ?_⟩
    have L2 := L1.new np (.lst (resL.map D.str))
    refine L2.pick (L2.get 0 rfl) (L2.na (List.mem_cons_self ..)) (by decide) (by decide) fun x hx h2 L3 => ?_
    obtain ⟨s, hs, rfl⟩ := List.mem_map.mp hx
    obtain ⟨g1, g2, g3, g4, g5, g6⟩ := res_gd s hs
    walk_at "e0"
    have l1 : (Str.ofString "z").length = 1 := by decide +kernel
    have l2 : (Str.ofString "s").length = 1 := by decide +kernel
    have l3 : (Str.ofString "7").length = 1 := by decide +kernel
    have mx := mx_len
    refine ⟨by rw [l1]; omega, by rw [l2]; omega, by rw [l3]; omega, by show 4 ≤ sizeLine; decide, fun p2 np2 => ?_⟩
    have L4 := L3.new np2 (.lst [.str (cutS s none (some (-1))), .str (Str.ofString "z" ++ s), .str (s ++ Str.ofString "s"), .str (s ++ Str.ofString "7")])
    refine L4.pick (L4.get 0 rfl) (L4.na (List.mem_cons_self ..)) (by simp) (by show 4 < 2 ^ 64; decide) fun x hx h3 L5 => ?_
    simp only [List.mem_cons, List.not_mem_nil, or_false] at hx
    rcases hx with rfl | rfl | rfl | rfl
    · exact fin _ h3 _ g1 L5
    · exact fin _ h3 _ g2 L5
    · exact fin _ h3 _ g3 L5
    · exact fin _ h3 _ g4 L5
  rw [if_neg (by simpa using z1), e_next]
  unfold rd__law_word_3
  walk_at "e0"
  unfold rd__law_word_4
  walk_at "e0"
  refine L1.draw (by decide) (by decide) fun r2 h2 r20 r21 L2 => ?_
  obtain ⟨j, rfl⟩ := Int.eq_ofNat_of_zero_le r20
  have hj : j < abcL.length := by show j < 26; omega
  have ej : (Str.ofString "abcdefghijklmnopqrstuvwxyz0123456789").cps.toList[j]? = some abcL[j] := by
    rw [show (Str.ofString "abcdefghijklmnopqrstuvwxyz0123456789").cps.toList = abcL ++ [48, 49, 50, 51, 52, 53, 54, 55, 56, 57] by decide +kernel, List.getElem?_append_left hj, List.getElem?_eq_getElem hj]
  walk_at "e0"
  rw [atI_of rfl ej]
  walk_at "e0"
  have W0 : Wd ⟨#[abcL[j]]⟩ 0 := ⟨⟨_, [], rfl, List.getElem_mem hj, Nat.le_refl _⟩, fun x hx => by
    have hx : x ∈ [abcL[j]] := hx
    rw [List.mem_singleton.mp hx]
    exact List.mem_append_left _ (List.getElem_mem hj)⟩
  generalize (⟨#[abcL[j]]⟩ : Str) = s0 at W0 ⊢
  unfold rd__law_word_5
  walk_at "e0"
  by_cases z2 : r = 2
  · rw [if_pos (decide_eq_true z2)]
    exact ⟨by decide, word_loop (n := 7) L2 W0 (by decide) q _ rfl⟩
  · rw [if_neg (by simpa using z2)]
    refine L2.draw (by decide) (by decide) fun r3 h3 r30 r31 L3 => ?_
    obtain ⟨k, rfl⟩ := Int.eq_ofNat_of_zero_le r30
    exact ⟨by omega, word_loop (n := k) L3 W0 (by omega) q _ rfl⟩
end
section
/-! drawn conditions -/
theorem LV.word {h hh : MH} {a c : Addr} {cs : List Int} {ws : List (Addr × MO)} {Q : KD} (L : LV h a c cs hh ws) (q : ∀ s h1, gdN s = true → LV h a c cs h1 ws → Q (.str s) h1) : sp__law_word [.ref a] hh Q :=
  ⟨a, c, cs, rfl, L.dr, fun s o g k => q s _ g (L.drawn k)⟩
def sp__law_gap : P1 := fun ds h Q => ∃ (a c : Addr) (cs : List Int), ds = [.ref a] ∧ Dr a c cs h ∧ ∀ (g : Int) (o : MO), g.natAbs ≤ 9999 → DrO c o → Q (.int g) (up h a o)
theorem len__law_gap : ∀ ds h Q, sp__law_gap ds h Q → ds.length = 1 := fun ds h Q ⟨_, _, _, e, _⟩ => by rw [e]; rfl
theorem sat__law_gap : ∀ ds h Q, sp__law_gap ds h Q → rd__law_gap sp__law_draw (endN Q) (startD 2 ds) h := by
  rintro ds h Q ⟨a, c, cs, rfl, d, q⟩
  have L0 := LV.start d
  show rd__law_gap sp__law_draw (endN Q) [some (.ref a), none] h
  unfold rd__law_gap
  walk_at "e0"
  refine L0.draw (by decide) (by decide) fun r h1 r0 r1 L1 => ?_
  unfold rd__law_gap_1
  walk_at "e0"
  by_cases z : r < 5
  · rw [if_pos (decide_eq_true z)]
    refine L1.draw (by decide) (by decide) fun r2 h2 r20 r21 L2 => ?_
    walk_at "e0"
    exact L2.ret fun o k => q _ o (by omega) k
  rw [if_neg (by simpa using z), e_next]
  unfold rd__law_gap_2
  walk_at "e0"
  by_cases z5 : r = 5
  · rw [if_pos (decide_eq_true z5)]
    refine L1.draw (by decide) (by decide) fun r2 h2 r20 r21 L2 => ?_
    walk_at "e0"
    exact L2.ret fun o k => q _ o (by omega) k
  rw [if_neg (by simpa using z5), e_next]
  unfold rd__law_gap_3
  walk_at "e0"
  by_cases z6 : r = 6
  · rw [if_pos (decide_eq_true z6)]
    refine L1.draw (by decide) (by decide) fun r2 h2 r20 r21 L2 => ?_
    walk_at "e0"
    exact L2.ret fun o k => q _ o (by omega) k
  rw [if_neg (by simpa using z6), e_next]
  unfold rd__law_gap_4
  walk_at "e0"
  refine L1.draw (by decide) (by decide) fun r2 h2 r20 r21 L2 => ?_
  walk_at "e0"
  exact L2.ret fun o k => q _ o (by omega) k
def sp__law_side : P1 := fun ds h Q => ∃ (a c : Addr) (cs : List Int), ds = [.ref a] ∧ Dr a c cs h ∧ ∀ (s : Sd) (o : MO), SdG s → DrO c o → Q (.str (sdS s)) (up h a o)
theorem len__law_side : ∀ ds h Q, sp__law_side ds h Q → ds.length = 1 := fun ds h Q ⟨_, _, _, e, _⟩ => by rw [e]; rfl
theorem sat__law_side : ∀ ds h Q, sp__law_side ds h Q → rd__law_side sp__law_draw sp__law_word (endN Q) (startD 2 ds) h := by
  rintro ds h Q ⟨a, c, cs, rfl, d, q⟩
  have L0 := LV.start d
  show rd__law_side sp__law_draw sp__law_word (endN Q) [some (.ref a), none] h
  unfold rd__law_side
  walk_at "e0"
  refine L0.draw (by decide) (by decide) fun r h1 r0 r1 L1 => ?_
  obtain ⟨j, rfl⟩ := Int.eq_ofNat_of_zero_le r0
  unfold rd__law_side_1
  walk_at "e0"
  by_cases z : ((j : Nat) : Int) < 2
  · rw [if_pos (decide_eq_true z)]
    refine ⟨by show 2 ≤ sizeLine; decide, fun p np => ?_⟩
    rw [up_same]
    walk_at "e0"
    have L2 := L1.new np (.lst [.str (Str.ofString "now"), .str (Str.ofString "0")])
    rcases (show j = 0 ∨ j = 1 by omega) with rfl | rfl
    · rw [show atI [D.str (Str.ofString "now"), .str (Str.ofString "0")] ((0 : Nat) : Int) = some (.str (Str.ofString "now")) from rfl]
      exact L2.ret fun o k => q (.wd true) o trivial k
    · rw [show atI [D.str (Str.ofString "now"), .str (Str.ofString "0")] ((1 : Nat) : Int) = some (.str (Str.ofString "0")) from rfl]
      exact L2.ret fun o k => q (.wd false) o trivial k
  rw [if_neg (by simpa using z), e_next]
  unfold rd__law_side_2
  walk_at "e0"
  refine ⟨by show 3 ≤ sizeLine; decide, fun p np => ?_⟩
  rw [up_same]
  walk_at "e0"
  have L2 := L1.new np (.lst [.str (Str.ofString "asker."), .str (Str.ofString "thing."), .str (Str.ofString "ask.")])
  have es : ∀ k : Nat, k < 3 → ∃ t : Str, atI [D.str (Str.ofString "asker."), .str (Str.ofString "thing."), .str (Str.ofString "ask.")] ((k : Nat) : Int) = some (.str t) ∧ t = frT k ++ tk "." ∧ t.length ≤ 6 := fun k hk => by
    rcases (show k = 0 ∨ k = 1 ∨ k = 2 by omega) with rfl | rfl | rfl
    · exact ⟨_, rfl, by decide +kernel, by decide +kernel⟩
    · exact ⟨_, rfl, by decide +kernel, by decide +kernel⟩
    · exact ⟨_, rfl, by decide +kernel, by decide +kernel⟩
  obtain ⟨t, e1, e2, e3⟩ := es (j - 2) (by omega)
  rw [show ((j : Nat) : Int) - 2 = ((j - 2 : Nat) : Int) by omega, e1]
  walk_at "e0"
  refine L2.word fun s h3 g L3 => ?_
  have ls := (gd_facts g).1
  have mx : 1000 ≤ sizeLine := by decide
  walk_at "e0"
  refine ⟨by omega, ?_⟩
  rw [e2]
  exact L3.ret fun o k => q (.fld (j - 2) s) o ⟨by omega, g⟩ k
theorem LV.side {h hh : MH} {a c : Addr} {cs : List Int} {ws : List (Addr × MO)} {Q : KD} (L : LV h a c cs hh ws) (q : ∀ s h1, SdG s → LV h a c cs h1 ws → Q (.str (sdS s)) h1) : sp__law_side [.ref a] hh Q :=
  ⟨a, c, cs, rfl, L.dr, fun s o g k => q s _ g (L.drawn k)⟩
theorem LV.gap {h hh : MH} {a c : Addr} {cs : List Int} {ws : List (Addr × MO)} {Q : KD} (L : LV h a c cs hh ws) (q : ∀ (g : Int) h1, g.natAbs ≤ 9999 → LV h a c cs h1 ws → Q (.int g) h1) : sp__law_gap [.ref a] hh Q :=
  ⟨a, c, cs, rfl, L.dr, fun s o g k => q s _ g (L.drawn k)⟩
def sp__law_fact : P1 := fun ds h Q => ∃ (a c : Addr) (cs : List Int), ds = [.ref a] ∧ Dr a c cs h ∧ ∀ (w : Cd) (o : MO), CdG w → dpW w = 1 → DrO c o → Q (cdD w) (up h a o)
theorem len__law_fact : ∀ ds h Q, sp__law_fact ds h Q → ds.length = 1 := fun ds h Q ⟨_, _, _, e, _⟩ => by rw [e]; rfl
theorem sat__law_fact : ∀ ds h Q, sp__law_fact ds h Q → rd__law_fact sp__law_draw sp__law_word sp__law_gap sp__law_side (endN Q) (startD 2 ds) h := by
  rintro ds h Q ⟨a, c, cs, rfl, d, q⟩
  have L0 := LV.start d
  show rd__law_fact sp__law_draw sp__law_word sp__law_gap sp__law_side (endN Q) [some (.ref a), none] h
  unfold rd__law_fact
  walk_at "e0"
  refine L0.draw (by decide) (by decide) fun r h1 r0 r1 L1 => ?_
  obtain ⟨j, rfl⟩ := Int.eq_ofNat_of_zero_le r0
  unfold rd__law_fact_1
  walk_at "e0"
  by_cases z : ((j : Nat) : Int) = 0
  · rw [if_pos (decide_eq_true z)]
    exact ⟨by show 1 ≤ sizeLine; decide, L1.ret fun o k => q .always o trivial rfl k⟩
  rw [if_neg (by simpa using z), e_next]
  unfold rd__law_fact_2
  walk_at "e0"
  by_cases z3 : ((j : Nat) : Int) < 3
  · rw [if_pos (decide_eq_true z3)]
    refine ⟨by show 2 ≤ sizeLine; decide, fun p np => ?_⟩
    walk_at "e0"
    rw [up_same]
    walk_at "e0"
    have L2 := L1.new np (.lst [.str (Str.ofString "named"), .str (Str.ofString "flag")])
    rcases (show j = 1 ∨ j = 2 by omega) with rfl | rfl
    · rw [show atI [D.str (Str.ofString "named"), .str (Str.ofString "flag")] (((1 : Nat) : Int) - 1) = some (.str (Str.ofString "named")) from rfl]
      walk_at "e0"
      refine L2.word fun s h3 g L3 => ?_
      exact ⟨by show 2 ≤ sizeLine; decide, L3.ret fun o k => q (.named s) o g rfl k⟩
    · rw [show atI [D.str (Str.ofString "named"), .str (Str.ofString "flag")] (((2 : Nat) : Int) - 1) = some (.str (Str.ofString "flag")) from rfl]
      walk_at "e0"
      refine L2.word fun s h3 g L3 => ?_
      exact ⟨by show 2 ≤ sizeLine; decide, L3.ret fun o k => q (.flag s) o g rfl k⟩
  rw [if_neg (by simpa using z3), e_next]
  unfold rd__law_fact_3
  walk_at "e0"
  by_cases z4 : ((j : Nat) : Int) = 3
  · rw [if_pos (decide_eq_true z4)]
    refine ⟨by show 2 ≤ sizeLine; decide, fun p np => ?_⟩
    walk_at "e0"
    have L2 := L1.new np (.lst [.str (Str.ofString "asker"), .str (Str.ofString "thing")])
    refine L2.draw (n := 2) (by decide) (by decide) fun r2 h2 r20 r21 L3 => ?_
    obtain ⟨i, rfl⟩ := Int.eq_ofNat_of_zero_le r20
    walk_at "e0"
    rw [L3.get 0 rfl]
    walk_at "e0"
    have ei : ([D.str (Str.ofString "asker"), .str (Str.ofString "thing")])[i]? = some (.str (frT i)) := by
      rcases (show i = 0 ∨ i = 1 by omega) with rfl | rfl <;> rfl
    rw [atI_of rfl ei]
    walk_at "e0"
    refine L3.word fun s h3 g L4 => ?_
    exact ⟨by show 3 ≤ sizeLine; decide, L4.ret fun o k => q (.tag i s) o ⟨by omega, g⟩ rfl k⟩
  rw [if_neg (by simpa using z4), e_next]
  unfold rd__law_fact_4
  walk_at "e0"
  by_cases z6 : ((j : Nat) : Int) < 6
  · rw [if_pos (decide_eq_true z6)]
    refine L1.word fun s h2 g L2 => ?_
    walk_at "e0"
    by_cases z5 : ((j : Nat) : Int) = 4
    · rw [if_pos (decide_eq_true z5)]
      exact ⟨by show 3 ≤ sizeLine; decide, L2.ret fun o k => q (.walk s (tk "thing")) o ⟨g, .inl rfl⟩ rfl k⟩
    · rw [if_neg (by simpa using z5)]
      refine L2.word fun s2 h3 g2 L3 => ?_
      exact ⟨by show 3 ≤ sizeLine; decide, L3.ret fun o k => q (.walk s s2) o ⟨g, .inr g2⟩ rfl k⟩
  rw [if_neg (by simpa using z6), e_next]
  unfold rd__law_fact_5
  walk_at "e0"
  refine L1.side fun l h2 gl L2 => ?_
  walk_at "e0"
  refine L2.side fun r h3 gr L3 => ?_
  walk_at "e0"
  refine L3.gap fun g h4 gg L4 => ?_
  exact ⟨by show 4 ≤ sizeLine; decide, L4.ret fun o k => q (.atm l r g) o ⟨gl, gr, gg⟩ rfl k⟩
def sp__law_given : Nat → P1
  | 0 => fun _ _ _ => False
  | n + 1 => fun ds h Q => ∃ (a c : Addr) (cs : List Int) (deep : Nat) (pr : Addr) (m : Int) (tall : Bool), ds = [.ref a, .int deep, .ref pr, .bool tall] ∧ Dr a c cs h ∧ h pr = some (.lst [.int m]) ∧ pr ≠ a ∧ pr ≠ c ∧ 1 ≤ deep ∧ deep ≤ n ∧ deep ≤ 12 ∧ ∀ (w : Cd) (o : MO) (m' : Int), CdG w → dpW w ≤ deep → DrO c o → Q (cdD w) (up (up h pr (.lst [.int m'])) a o)
theorem len__law_given : ∀ n ds h Q, sp__law_given n ds h Q → ds.length = 4
  | 0, _, _, _, z => z.elim
  | n + 1, ds, h, Q, ⟨_, _, _, _, _, _, _, e, _⟩ => by rw [e]; rfl
/-- a call that writes the room -/
theorem LV.given {h hh : MH} {a c pr : Addr} {cs : List Int} {Q : KD} {m : Int} (L : LV (up h pr (.lst [.int m])) a c cs hh []) (pa : pr ≠ a) (pc : pr ≠ c) {n deep : Nat} {tall : Bool} (h1 : 1 ≤ deep) (hn : deep ≤ n) (h12 : deep ≤ 12) (q : ∀ w m' h2, CdG w → dpW w ≤ deep → LV (up h pr (.lst [.int m'])) a c cs h2 [] → Q (cdD w) h2) : sp__law_given (n + 1) [.ref a, .int deep, .ref pr, .bool tall] hh Q := by
  have ep : hh pr = some (.lst [.int m]) := L.old up_same pa
  refine ⟨a, c, cs, deep, pr, m, tall, rfl, L.dr, ep, pa, pc, h1, hn, h12, fun w o m' G dw k => q w m' _ G dw ?_⟩
  exact ((L.base up_same pa pc (.lst [.int m'])).cast up_up rfl).drawn k
theorem sat__law_given : ∀ n ds h Q, sp__law_given (n + 1) ds h Q → rd__law_given sp__law_draw sp__law_fact (sp__law_given n) (endN Q) (startD 8 ds) h := by
  rintro n ds h Q ⟨a, c, cs, deep, pr, m, tall, rfl, d, ep, pa, pc, d1, dn, d12, q⟩
  obtain ⟨n, rfl⟩ : ∃ n', n = n' + 1 := ⟨n - 1, by omega⟩
  have L0 := (LV.start d).cast (up_id ep).symm rfl
  show rd__law_given sp__law_draw sp__law_fact (sp__law_given (n + 1)) (endN Q) [some (.ref a), some (.int deep), some (.ref pr), some (.bool tall), none, none, none, none] h
  have fin : ∀ (w : Cd) (m' : Int) (hh : MH), CdG w → dpW w ≤ deep → LV (up h pr (.lst [.int m'])) a c cs hh [] → Lh Q (cdD w) hh := fun w m' hh G dw L => L.ret fun o k => q w o m' G dw k
  unfold rd__law_given
  walk_at "e0"
  rw [ep]
  walk_at "e0"
  rw [atI_z]
  walk_at "e0"
  rw [ep]
  walk_at "e0"
  simp only [List.length_cons, List.length_nil, Nat.reduceAdd, show ixN 1 0 = some 0 from by decide, v_setK, List.set_cons_zero]
  have L1 := (L0.base up_same pa pc (.lst [.int (m - 1)])).cast up_up rfl
  unfold rd__law_given_1
  walk_at "e0"
  refine L1.draw (by decide) (by decide) fun r h2 r0 r1 L2 => ?_
  unfold rd__law_given_2
  walk_at "e0"
  have e2 : h2 pr = some (.lst [.int (m - 1)]) := L2.old up_same pa
  have leaf : sp__law_fact [.ref a] h2 (endN Q).rt := ⟨a, c, cs, rfl, L2.dr, fun w o G dw k => by
    have L3 := L2.drawn k
    exact fin w (m - 1) _ G (by omega) L3⟩
  have ed : ((deep : Nat) : Int) - 1 = ((deep - 1 : Nat) : Int) := by omega
  -- behind the test
  have rest : 2 ≤ deep → rd__law_given_3 sp__law_draw sp__law_fact (sp__law_given (n + 1)) (endN Q) [some (.ref a), some (.int deep), some (.ref pr), some (.bool tall), some (.int r), none, none, none] h2 := fun d2 => by
    unfold rd__law_given_3
    walk_at "e0"
    by_cases z5 : r < 5
    · rw [if_pos (decide_eq_true z5), ed]
      refine L2.given pa pc (by omega) (by omega) (by omega) fun w m2 h3 G dw L3 => ?_
      exact ⟨by show 2 ≤ sizeLine; decide, fin (.nt w) m2 h3 G (by show dpW w + 1 ≤ deep; omega) L3⟩
    · rw [if_neg (by simpa using z5), e_next]
      unfold rd__law_given_4
      walk_at "e0"
      rw [ed]
      refine L2.given pa pc (by omega) (by omega) (by omega) fun w1 m2 h3 G1 dw1 L3 => ?_
      unfold rd__law_given_5
      walk_at "e0"
      rw [ed]
      refine L3.given pa pc (by omega) (by omega) (by omega) fun w2 m3 h4 G2 dw2 L4 => ?_
      unfold rd__law_given_6
      walk_at "e0"
      refine L4.draw (by decide) (by decide) fun r5 h5 r50 r51 L5 => ?_
      walk_at "e0"
      have last : ∀ o : Bool, rd__law_given_7 sp__law_draw sp__law_fact (sp__law_given (n + 1)) (endN Q) [some (.ref a), some (.int deep), some (.ref pr), some (.bool tall), some (.int r), some (cdD w1), some (cdD w2), some (.str (opS o))] h5 := fun o => by
        have mx : ∀ x y : Cd, dpW x ≤ deep - 1 → dpW y ≤ deep - 1 → dpW (.bin o x y) ≤ deep := fun x y hx hy => by
          show Nat.max (dpW x) (dpW y) + 1 ≤ deep
          have := Nat.max_le.mpr ⟨hx, hy⟩
          have l3 : Nat.max (dpW x) (dpW y) = max (dpW x) (dpW y) := rfl
          omega
        unfold rd__law_given_7
        walk_at "e0"
        refine L5.draw (by decide) (by decide) fun r6 h6 r60 r61 L6 => ?_
        walk_at "e0"
        by_cases z6 : r6 = 0
        · rw [if_pos (decide_eq_true z6)]
          exact ⟨by show 3 ≤ sizeLine; decide, fin (.bin o w1 w2) m3 h6 ⟨G1, G2⟩ (mx _ _ dw1 dw2) L6⟩
        · rw [if_neg (by simpa using z6)]
          exact ⟨by show 3 ≤ sizeLine; decide, fin (.bin o w2 w1) m3 h6 ⟨G2, G1⟩ (mx _ _ dw2 dw1) L6⟩
      by_cases z5 : r5 = 0
      · rw [if_pos (decide_eq_true z5)]
        exact last true
      · rw [if_neg (by simpa using z5)]
        exact last false
  by_cases z1 : deep = 1
  · rw [if_pos (by simp [z1])]
    exact leaf
  · rw [if_neg (by simp; omega)]
    cases tall with
    | true =>
      rw [if_neg (by decide), if_neg (by decide), e_next]
      exact rest (by omega)
    | false =>
      rw [if_pos (by decide)]
      by_cases z2 : r < 3
      · rw [if_pos (decide_eq_true z2), if_pos trivial]
        exact leaf
      · rw [if_neg (by simpa using z2), e2]
        walk_at "e0"
        rw [atI_z]
        walk_at "e0"
        by_cases z3 : m - 1 < 1
        · rw [if_pos (decide_eq_true z3)]
          exact leaf
        · rw [if_neg (by simpa using z3), e_next]
          exact rest (by omega)
def sp__law_any_cond : P1 := fun ds h Q => ∃ (a c : Addr) (cs : List Int) (sz : Nat), ds = [.ref a, .int sz] ∧ 1 ≤ sz ∧ sz ≤ 100 ∧ Dr a c cs h ∧ ∀ (w : Cd) (o : MO), CdW w → DrO c o → Q (cdD w) (up h a o)
theorem len__law_any_cond : ∀ ds h Q, sp__law_any_cond ds h Q → ds.length = 2 := fun ds h Q ⟨_, _, _, _, e, _⟩ => by rw [e]; rfl
theorem le_room {h h1 : MH} {a c pr : Addr} {cs : List Int} {X Y o : MO} (L : LV h a c cs h1 []) (np : h1 pr = none) : DL.le (up h a o) (up (up (up h1 pr Y) pr X) a o) := fun b u e => by
  by_cases z : b = a
  · subst z; rw [up_same] at e ⊢; exact e
  · rw [up_ne z] at e ⊢
    have e1 := L.old e z
    have : b ≠ pr := fun w => by rw [w, np] at e1; cases e1
    rw [up_ne this, up_ne this]
    exact e1
theorem sat__law_any_cond : ∀ ds h Q, sp__law_any_cond ds h Q → rd__law_any_cond sp__law_draw (sp__law_given 14) (endN Q) (startD 2 ds) h := by
  rintro ds h Q ⟨a, c, cs, sz, rfl, s1, s2, d, q⟩
  have L0 := LV.start d
  show rd__law_any_cond sp__law_draw (sp__law_given 14) (endN Q) [some (.ref a), some (.int sz)] h
  have ex : ∀ (hh : MH) (pr : Addr) (m : Int) (tall : Bool), LV h a c cs hh [] → hh pr = none → sp__law_given 14 [.ref a, .int 12, .ref pr, .bool tall] (up hh pr (.lst [.int m])) (endN Q).rt := fun hh pr m tall L np => by
    have L2 := L.new np (.lst [.int m])
    refine ⟨a, c, cs, 12, pr, m, tall, rfl, L2.dr, L2.get 0 rfl, L.ne np, ?_, by decide, by decide, by decide, fun w o m' G dw k => ?_⟩
    · intro z
      obtain ⟨u, hu⟩ : ∃ u, hh c = some u := ⟨_, L.dr.2⟩
      rw [← z, np] at hu
      cases hu
    · exact lh_le (le_room L np) (q w o ⟨G, dw⟩ k)
  have tail : ∀ hh, LV h a c cs hh [] → rd__law_any_cond_1 sp__law_draw (sp__law_given 14) (endN Q) [some (.ref a), some (.int sz)] hh := fun hh L => by
    unfold rd__law_any_cond_1
    walk_at "e0"
    refine L.draw (by omega) (by omega) fun r3 h3 r30 r31 L3 => ?_
    walk_at "e0"
    exact ⟨by show 1 ≤ sizeLine; decide, fun p np => ex h3 p _ false L3 np⟩
  unfold rd__law_any_cond
  walk_at "e0"
  by_cases z5 : 5 < sz
  · rw [if_pos (by simp; omega)]
    refine L0.draw (by decide) (by decide) fun r h1 r0 r1 L1 => ?_
    walk_at "e0"
    by_cases z : r = 0
    · rw [if_pos (decide_eq_true z)]
      exact ⟨by show 1 ≤ sizeLine; decide, fun p np => ex h1 p 3 true L1 np⟩
    · rw [if_neg (by simpa using z), e_next]
      exact tail h1 L1
  · rw [if_neg (by simp; omega), if_neg (by decide), e_next]
    exact tail h L0
end
section
/-! the law -/
def TkOk (z : Str) : Prop := z.length ≤ 20 ∧ ∀ c ∈ z.cps.toList, c ≠ 32 ∧ c < 128
theorem tk_gd {s : Str} (g : gdN s = true) : TkOk s := by
  obtain ⟨h1, h2⟩ := gd_facts g
  refine ⟨by omega, fun c hc => ?_⟩
  have e : ∀ c ∈ abnL, c ≠ 32 ∧ c < 128 := by decide
  exact e c (h2 c hc)
def tkB (z : Str) : Bool := decide (z.length ≤ 20) && z.cps.toList.all fun c => decide (c ≠ 32) && decide (c < 128)
theorem tk_B {z : Str} (h : tkB z = true) : TkOk z := by
  unfold tkB at h
  rw [Bool.and_eq_true, decide_eq_true_eq, List.all_eq_true] at h
  refine ⟨h.1, fun c hc => ?_⟩
  have := h.2 c hc
  rw [Bool.and_eq_true, decide_eq_true_eq, decide_eq_true_eq] at this
  exact this
theorem tk_enc {l n : Nat} {T : List Str} (h : ∀ z ∈ T, TkOk z) : ∀ z ∈ enc l n T, TkOk z := by
  unfold enc
  split
  · exact h
  · intro z hz
    simp only [List.mem_cons, List.mem_append, List.not_mem_nil, or_false] at hz
    rcases hz with rfl | hz | rfl
    · exact tk_B (by decide +kernel)
    · exact h z hz
    · exact tk_B (by decide +kernel)
theorem tk_fr (k : Nat) : TkOk (frT k) := by
  unfold frT
  split <;> exact tk_B (by decide +kernel)
theorem tk_sd {s : Sd} (G : SdG s) : ∀ z ∈ sdT s, TkOk z := by
  cases s with
  | wd b =>
    intro z hz
    rw [List.mem_singleton.mp hz]
    cases b <;> exact tk_B (by decide +kernel)
  | fld k n =>
    intro z hz
    have hz : z ∈ [frT k, tk ".", n] := hz
    simp only [List.mem_cons, List.not_mem_nil, or_false] at hz
    rcases hz with rfl | rfl | rfl
    · exact tk_fr k
    · exact tk_B (by decide +kernel)
    · exact tk_gd G.2
theorem tk_num {n : Nat} (h : n ≤ 9999) : TkOk (numS n) := by
  have ln : (numS n).length = (TL.numL n).length := by
    have : (numS n).cps.toList.length = (numS n).length := Array.length_toList
    rw [← this, numS_cps]
  have l4 : (TL.numL n).length ≤ 4 := TL.numL_len (by decide) (by omega)
  refine ⟨by omega, fun c hc => ?_⟩
  rw [numS_cps] at hc
  have := TL.numL_digits n c hc
  omega
theorem tk_gap {g : Int} (h : g.natAbs ≤ 9999) : ∀ z ∈ gapT g, TkOk z := by
  intro z hz
  unfold gapT at hz
  split at hz
  · cases hz
  · simp only [List.mem_cons, List.not_mem_nil, or_false] at hz
    rcases hz with rfl | rfl
    · split <;> exact tk_B (by decide +kernel)
    · exact tk_num h
theorem tk_cd : ∀ {w : Cd} (n : Nat), CdG w → ∀ z ∈ cdT w n, TkOk z
  | .always, n, G, z, hz => by
    rw [List.mem_singleton.mp (show z ∈ [tk "always"] from hz)]
    exact tk_B (by decide +kernel)
  | .named m, n, G, z, hz => by
    have hz : z ∈ [tk "@", m] := hz
    simp only [List.mem_cons, List.not_mem_nil, or_false] at hz
    rcases hz with rfl | rfl
    · exact tk_B (by decide +kernel)
    · exact tk_gd G
  | .flag m, n, G, z, hz => by
    have hz : z ∈ [tk "ask", tk "is", m] := hz
    simp only [List.mem_cons, List.not_mem_nil, or_false] at hz
    rcases hz with rfl | rfl | rfl
    · exact tk_B (by decide +kernel)
    · exact tk_B (by decide +kernel)
    · exact tk_gd G
  | .tag k m, n, G, z, hz => by
    have hz : z ∈ [frT k, tk "is", m] := hz
    simp only [List.mem_cons, List.not_mem_nil, or_false] at hz
    rcases hz with rfl | rfl | rfl
    · exact tk_fr k
    · exact tk_B (by decide +kernel)
    · exact tk_gd G.2
  | .walk m o, n, G, z, hz => by
    have hz : z ∈ [tk "by", m, tk "to", o] := hz
    simp only [List.mem_cons, List.not_mem_nil, or_false] at hz
    rcases hz with rfl | rfl | rfl | rfl
    · exact tk_B (by decide +kernel)
    · exact tk_gd G.1
    · exact tk_B (by decide +kernel)
    · rcases G.2 with e | g
      · rw [e]; exact tk_B (by decide +kernel)
      · exact tk_gd g
  | .atm l r g, n, G, z, hz => by
    have hz : z ∈ sdT l ++ tk "<=" :: (sdT r ++ gapT g) := hz
    simp only [List.mem_append, List.mem_cons] at hz
    rcases hz with hz | rfl | hz | hz
    · exact tk_sd G.1 z hz
    · exact tk_B (by decide +kernel)
    · exact tk_sd G.2.1 z hz
    · exact tk_gap G.2.2 z hz
  | .nt w, n, G, z, hz => by
    rcases List.mem_cons.mp (show z ∈ tk "not" :: cdT w 2 from hz) with rfl | hz
    · exact tk_B (by decide +kernel)
    · exact tk_cd (w := w) 2 G z hz
  | .bin true a b, n, G, z, hz => by
    refine tk_enc (l := 1) (n := n) (T := cdT a 1 ++ tk "and" :: cdT b 2) (fun z hz => ?_) z hz
    rcases List.mem_append.mp hz with hz | hz
    · exact tk_cd 1 G.1 z hz
    · rcases List.mem_cons.mp hz with rfl | hz
      · exact tk_B (by decide +kernel)
      · exact tk_cd 2 G.2 z hz
  | .bin false a b, n, G, z, hz => by
    refine tk_enc (l := 0) (n := n) (T := cdT a 0 ++ tk "or" :: cdT b 1) (fun z hz => ?_) z hz
    rcases List.mem_append.mp hz with hz | hz
    · exact tk_cd 0 G.1 z hz
    · rcases List.mem_cons.mp hz with rfl | hz
      · exact tk_B (by decide +kernel)
      · exact tk_cd 1 G.2 z hz
theorem cd_ne : ∀ {w : Cd} (n : Nat), cdT w n ≠ []
  | .always, n => by show [tk "always"] ≠ []; simp
  | .named m, n => by show [tk "@", m] ≠ []; simp
  | .flag m, n => by show [tk "ask", tk "is", m] ≠ []; simp
  | .tag k m, n => by show [frT k, tk "is", m] ≠ []; simp
  | .walk m o, n => by show [tk "by", m, tk "to", o] ≠ []; simp
  | .atm l r g, n => by show sdT l ++ tk "<=" :: _ ≠ []; simp
  | .nt w, n => by show tk "not" :: _ ≠ []; simp
  | .bin true a b, n => by
    show enc 1 n (cdT a 1 ++ tk "and" :: cdT b 2) ≠ []
    unfold enc
    split <;> simp
  | .bin false a b, n => by
    show enc 0 n (cdT a 0 ++ tk "or" :: cdT b 1) ≠ []
    unfold enc
    split <;> simp
theorem tk_okS {z : Str} (h : TkOk z) : okSB z = true := by
  unfold okSB
  rw [Bool.and_eq_true, decide_eq_true_eq]
  exact ⟨Nat.le_trans h.1 (by decide), strOk_iff.mpr fun c hc => by have := (h.2 c hc).2; omega⟩
theorem cd_len {w : Cd} (F : CdW w) : (jnS (cdT w 0)).length ≤ 2000000 := by
  have hl := cdW_len F
  have hs := sum_len (T := cdT w 0) fun z hz => (tk_cd 0 F.1 z hz).1
  unfold jnS
  rw [TL.join_eq]
  refine Nat.le_trans (jn_len _ _) ?_
  rw [sp_len]
  omega
theorem LV.any {h hh : MH} {a c : Addr} {cs : List Int} {ws : List (Addr × MO)} {Q : KD} (L : LV h a c cs hh ws) {sz : Nat} (s1 : 1 ≤ sz) (s2 : sz ≤ 100) (q : ∀ (x : Cd) h1, CdW x → LV h a c cs h1 ws → Q (cdD x) h1) : sp__law_any_cond [.ref a, .int sz] hh Q :=
  ⟨a, c, cs, sz, rfl, s1, s2, L.dr, fun x o g k => q x _ g (L.drawn k)⟩
theorem law_turn {Nx : Nd} {h hh : MH} {a c : Addr} {cs : List Int} {x : Cd} {x0 x2 x3 x5 x6 : Option D} {ws : List (Addr × MO)} (G : CdW x) (L : LV h a c cs hh ws) (hn : ∀ y5 y6 h2, LV h a c cs h2 ws → Nx.nx [x0, some (.ref a), x2, x3, some (cdD x), y5, y6] h2) : rd_law_b1 sp__law_begin sp__law_any_cond sp_write_cond sp__law_is_text sp__law_word sp_write Nx [x0, some (.ref a), x2, x3, some (cdD x), x5, x6] hh := by
  have tok := tk_cd 0 G.1
  have F := G
  have ne : cdT x 0 ≠ [] := cd_ne 0
  have jl := cd_len G
  have mx := mx_len
  unfold rd_law_b1
  walk_at "e0"
  refine ⟨x, rfl, F, fun z hz => (tok z hz).1, ?_⟩
  unfold rd_law_b1_1
  walk_at "e0"
  rw [isi_eval (t := "str") (n := "str") (b := true) rfl (by decide)]
  walk_at "e0"
  rw [if_neg (by decide)]
  refine ⟨⟨_, rfl⟩, ?_⟩
  rw [e_c, v_split]
  refine ⟨by decide +kernel, by omega, ?_⟩
  rw [split_jn ne fun z hz m => ((tok z hz).2 32 m).1 rfl]
  refine ⟨List.all_eq_true.mpr fun z hz => tk_okS (tok z hz), fun p np => ?_⟩
  have L2 := L.new np (.lst ((cdT x 0).map D.str))
  generalize up hh p _ = h2 at L2 ⊢
  refine ⟨x, p, rfl, L2.get 0 rfl, ⟨G.1, G.2, cdW_len G⟩, ?_⟩
  walk_at "e0"
  rw [if_neg (by decide), e_next]
  have L3 := L2.tl
  unfold rd_law_b1_2
  walk_at "e0"
  refine L3.word fun nm h3 g L4 => ?_
  have ln := (gd_facts g).1
  unfold rd_law_b1_3
  walk_at "e0"
  refine ⟨by show 3 ≤ sizeLine; decide, by show 1 ≤ sizeLine; decide, ?_⟩
  refine ⟨nm, x, rfl, F, fun z hz => (tok z hz).1, by omega, ?_⟩
  rw [line_eq ne]
  have e1 : (Str.ofString "when ").length = 5 := by decide +kernel
  have e2 : (Str.ofString " = ").length = 3 := by decide +kernel
  have e3 : (Str.ofString " ;\n").length = 3 := by decide +kernel
  walk_at "e0"
  refine ⟨by rw [e1]; omega, by rw [Str.length_append, e1, e2]; omega, by simp only [Str.length_append, e1, e2]; omega, by simp only [Str.length_append, e1, e2, e3]; omega, ?_⟩
  rw [if_neg (by decide), e_next]
  exact hn _ _ _ L4
theorem len_law : ∀ ds h Q, spLaw ds h Q → ds.length = 1 := fun ds h Q ⟨_, e, _⟩ => by rw [e]; rfl
theorem sat_law : ∀ ds h Q, spLaw ds h Q → rd_law sp__law_begin sp__law_any_cond sp_write_cond sp__law_is_text sp__law_word sp_write (endN Q) (startD 7 ds) h := by
  rintro ds h Q ⟨cs, rfl, hcs, q⟩
  show rd_law sp__law_begin sp__law_any_cond sp_write_cond sp__law_is_text sp__law_word sp_write (endN Q) [some (.rol (cs.map D.int)), none, none, none, none, none, none] h
  unfold rd_law
  walk_at "e0"
  refine ⟨cs, rfl, hcs, fun a c o na nc ac k0 => ?_⟩
  have d0 : Dr a c cs (up (up h c (.lst (cs.map D.int))) a o) := ⟨⟨o, up_same, k0⟩, by rw [up_ne ac.symm, up_same]⟩
  generalize up (up h c (.lst (cs.map D.int))) a o = h0 at d0
  have L0 := LV.start d0
  walk_at "e0"
  unfold rd_law_1
  walk_at "e0"
  refine L0.any (sz := 24) (by decide) (by decide) fun x h1 Gx L1 => ?_
  unfold rd_law_2
  walk_at "e0"
  refine L1.any (sz := 6) (by decide) (by decide) fun y h2 Gy L2 => ?_
  unfold rd_law_3
  walk_at "e0"
  refine ⟨by show 3 ≤ sizeLine; decide, fun p np => ?_⟩
  have L3 := L2.new np (.lst [cdD x, cdD y, cdD x])
  rw [up_same]
  walk_at "e0"
  have two : ∀ (z : Cd) (i : Nat), ([cdD x, cdD y, cdD x])[i]? = some (cdD z) → True := fun _ _ _ => trivial
  refine ⟨fun i σ hh => ∃ (x4 x5 x6 : Option D), LV h0 a c cs hh [(p, .lst [cdD x, cdD y, cdD x])] ∧ σ = [some (.rol (cs.map D.int)), some (.ref a), some (cdD x), some (cdD y), x4, x5, x6], Lw.of ⟨none, none, none, L3, rfl⟩, fun i σ hh ⟨_, _, _, L, _⟩ => L.get 0 rfl, ?_, ?_⟩
  · rintro i d σ hh hd ⟨x4, x5, x6, L, rfl⟩
    have go : ∀ z : Cd, CdW z → rd_law_b1 sp__law_begin sp__law_any_cond sp_write_cond sp__law_is_text sp__law_word sp_write _ [some (.rol (cs.map D.int)), some (.ref a), some (cdD x), some (cdD y), some (cdD z), x5, x6] hh := fun z Gz => law_turn (Nx := { nx := Lw fun σ hh => ∃ (x4 x5 x6 : Option D), LV h0 a c cs hh [(p, .lst [cdD x, cdD y, cdD x])] ∧ σ = [some (.rol (cs.map D.int)), some (.ref a), some (cdD x), some (cdD y), x4, x5, x6], rt := (endN Q).rt, bk := rd_law_4 sp__law_begin sp__law_any_cond sp_write_cond sp__law_is_text sp__law_word sp_write (endN Q), ct := Lw fun σ hh => ∃ (x4 x5 x6 : Option D), LV h0 a c cs hh [(p, .lst [cdD x, cdD y, cdD x])] ∧ σ = [some (.rol (cs.map D.int)), some (.ref a), some (cdD x), some (cdD y), x4, x5, x6] }) Gz L fun y5 y6 h3 L4 => Lw.of ⟨_, y5, y6, L4, rfl⟩
    have hi := (List.getElem?_eq_some_iff.mp hd).1
    have hi : i < 3 := hi
    rcases (show i = 0 ∨ i = 1 ∨ i = 2 by omega) with rfl | rfl | rfl
    · cases hd
      walk_at "e0"
      exact go x Gx
    · cases hd
      walk_at "e0"
      exact go y Gy
    · cases hd
      walk_at "e0"
      exact go x Gx
  · rintro σ hh ⟨x4, x5, x6, L, rfl⟩
    unfold rd_law_4
    walk_at "e0"
    exact lh_le le.refl (q _)
end
end DL
namespace DL
open PySem PySem.Spec PyProof.Rows L2
set_option maxHeartbeats 0 in
theorem zall {l : PySem.W.OpenLaw} {w : World} {K : PySem.W.Frag} {h : Heap} {mg : Str → Option Value} {fa : Addr} (X : K.In h) (G : h.Ns mainGlobals mg) (hfa : mg "law" = some (.ref fa)) (c : SaysZ zfz zfn zts w K) :
    ∃ fd : FuncData, (∀ (s : Shared) (v : Value), BindsTo s fd ⟨[v], []⟩ [("_law_script", v)]) ∧ ∀ base : Heap, K.In base → base.Ns mainGlobals mg → FnG l.prog w K mg base 22 fa fd ["_law_script"] (lowS0 K) := by
  have B : Blt w K mg := ⟨He.free_ok X G (c.heF 0), He.free_ok X G (c.heF 1), He.free_ok X G (c.heF 2), He.free_ok X G (c.heF 3), He.free_ok X G (c.heF 4), He.free_ok X G (c.heF 5), He.free_ok X G (c.heF 6), He.free_ok X G (c.heF 7), He.free_ok X G (c.heF 8), He.free_ok X G (c.heF 9), He.free_ok X G (c.heF 10), dicS_ok (He.glo_ok X G (c.heF 11)) (c.fact 12) (c.tab 0 (t := (fun K => He.ga K "SIGNS", ["star", "plus", "maybe"]))), tupG_at (He.glo_ok X G (c.heF 13)) (c.fact 14)⟩
  have T_test_tokens : TopF K mg "test_tokens" "test_tokens" s_test_tokens ["tests"] := top_z (He.glo_ok X G (c.heF 15)) (c.def_ 0 (d := ⟨fun K => He.ga K "test_tokens", "test_tokens", "test_tokens", s_test_tokens⟩)) fun _ _ _ _ _ _ us hl => match us, hl with | [_], _ => rfl
  have T_enclosed : TopF K mg "enclosed" "enclosed" s_enclosed ["tokens", "level", "needed"] := top_z (He.glo_ok X G (c.heF 16)) (c.def_ 1 (d := ⟨fun K => He.ga K "enclosed", "enclosed", "enclosed", s_enclosed⟩)) fun _ _ _ _ _ _ us hl => match us, hl with | [_, _, _], _ => rfl
  have T_table_tokens : TopF K mg "table_tokens" "table_tokens" s_table_tokens ["walk"] := top_z (He.glo_ok X G (c.heF 17)) (c.def_ 2 (d := ⟨fun K => He.ga K "table_tokens", "table_tokens", "table_tokens", s_table_tokens⟩)) fun _ _ _ _ _ _ us hl => match us, hl with | [_], _ => rfl
  have T_term_tokens : TopF K mg "term_tokens" "term_tokens" s_term_tokens ["term"] := top_z (He.glo_ok X G (c.heF 18)) (c.def_ 3 (d := ⟨fun K => He.ga K "term_tokens", "term_tokens", "term_tokens", s_term_tokens⟩)) fun _ _ _ _ _ _ us hl => match us, hl with | [_], _ => rfl
  have T_act_tokens : TopF K mg "act_tokens" "act_tokens" s_act_tokens ["acts"] := top_z (He.glo_ok X G (c.heF 19)) (c.def_ 4 (d := ⟨fun K => He.ga K "act_tokens", "act_tokens", "act_tokens", s_act_tokens⟩)) fun _ _ _ _ _ _ us hl => match us, hl with | [_], _ => rfl
  have T__law_begin : TopF K mg "_law_begin" "_law_begin" s__law_begin ["_law_script"] := top_z (He.glo_ok X G (c.heF 20)) (c.def_ 5 (d := ⟨fun K => He.ga K "_law_begin", "_law_begin", "_law_begin", s__law_begin⟩)) fun _ _ _ _ _ _ us hl => match us, hl with | [_], _ => rfl
  have T__law_draw : TopF K mg "_law_draw" "_law_draw" s__law_draw ["_law_d", "_law_many"] := top_z (He.glo_ok X G (c.heF 21)) (c.def_ 6 (d := ⟨fun K => He.ga K "_law_draw", "_law_draw", "_law_draw", s__law_draw⟩)) fun _ _ _ _ _ _ us hl => match us, hl with | [_, _], _ => rfl
  have T__law_is_int : TopF K mg "_law_is_int" "_law_is_int" s__law_is_int ["_law_thing"] := top_z (He.glo_ok X G (c.heF 22)) (c.def_ 7 (d := ⟨fun K => He.ga K "_law_is_int", "_law_is_int", "_law_is_int", s__law_is_int⟩)) fun _ _ _ _ _ _ us hl => match us, hl with | [_], _ => rfl
  have T__law_reserved : TopF K mg "_law_reserved" "_law_reserved" s__law_reserved [] := top_z (He.glo_ok X G (c.heF 23)) (c.def_ 8 (d := ⟨fun K => He.ga K "_law_reserved", "_law_reserved", "_law_reserved", s__law_reserved⟩)) fun _ _ _ _ _ _ us hl => match us, hl with | [], _ => rfl
  have T__law_see : TopF K mg "_law_see" "_law_see" s__law_see ["_law_c"] := top_z (He.glo_ok X G (c.heF 24)) (c.def_ 9 (d := ⟨fun K => He.ga K "_law_see", "_law_see", "_law_see", s__law_see⟩)) fun _ _ _ _ _ _ us hl => match us, hl with | [_], _ => rfl
  have T__law_fold : TopF K mg "_law_fold" "_law_fold" s__law_fold ["_law_values", "_law_waits", "_law_words"] := top_z (He.glo_ok X G (c.heF 25)) (c.def_ 10 (d := ⟨fun K => He.ga K "_law_fold", "_law_fold", "_law_fold", s__law_fold⟩)) fun _ _ _ _ _ _ us hl => match us, hl with | [_, _, _], _ => rfl
  have T__law_partner : TopF K mg "_law_partner" "_law_partner" s__law_partner ["_law_words", "_law_start"] := top_z (He.glo_ok X G (c.heF 26)) (c.def_ 11 (d := ⟨fun K => He.ga K "_law_partner", "_law_partner", "_law_partner", s__law_partner⟩)) fun _ _ _ _ _ _ us hl => match us, hl with | [_, _], _ => rfl
  have T_atom_tokens : TopF K mg "atom_tokens" "atom_tokens" s_atom_tokens ["cond"] := top_z (He.glo_ok X G (c.heF 27)) (c.def_ 12 (d := ⟨fun K => He.ga K "atom_tokens", "atom_tokens", "atom_tokens", s_atom_tokens⟩)) fun _ _ _ _ _ _ us hl => match us, hl with | [_], _ => rfl
  have T__law_pick : TopF K mg "_law_pick" "_law_pick" s__law_pick ["_law_d", "_law_row"] := top_z (He.glo_ok X G (c.heF 28)) (c.def_ 13 (d := ⟨fun K => He.ga K "_law_pick", "_law_pick", "_law_pick", s__law_pick⟩)) fun _ _ _ _ _ _ us hl => match us, hl with | [_, _], _ => rfl
  have T__law_gap : TopF K mg "_law_gap" "_law_gap" s__law_gap ["_law_d"] := top_z (He.glo_ok X G (c.heF 29)) (c.def_ 14 (d := ⟨fun K => He.ga K "_law_gap", "_law_gap", "_law_gap", s__law_gap⟩)) fun _ _ _ _ _ _ us hl => match us, hl with | [_], _ => rfl
  have T__law_good_name : TopF K mg "_law_good_name" "_law_good_name" s__law_good_name ["_law_thing"] := top_z (He.glo_ok X G (c.heF 30)) (c.def_ 15 (d := ⟨fun K => He.ga K "_law_good_name", "_law_good_name", "_law_good_name", s__law_good_name⟩)) fun _ _ _ _ _ _ us hl => match us, hl with | [_], _ => rfl
  have T__law_take : TopF K mg "_law_take" "_law_take" s__law_take ["_law_c", "_law_word_here"] := top_z (He.glo_ok X G (c.heF 31)) (c.def_ 16 (d := ⟨fun K => He.ga K "_law_take", "_law_take", "_law_take", s__law_take⟩)) fun _ _ _ _ _ _ us hl => match us, hl with | [_, _], _ => rfl
  have T__law_take_number : TopF K mg "_law_take_number" "_law_take_number" s__law_take_number ["_law_c", "_law_low", "_law_high"] := top_z (He.glo_ok X G (c.heF 32)) (c.def_ 17 (d := ⟨fun K => He.ga K "_law_take_number", "_law_take_number", "_law_take_number", s__law_take_number⟩)) fun _ _ _ _ _ _ us hl => match us, hl with | [_, _, _], _ => rfl
  have T_walk_tokens : TopF K mg "walk_tokens" "walk_tokens" s_walk_tokens ["walk", "needed"] := top_z (He.glo_ok X G (c.heF 33)) (c.def_ 18 (d := ⟨fun K => He.ga K "walk_tokens", "walk_tokens", "walk_tokens", s_walk_tokens⟩)) fun _ _ _ _ _ _ us hl => match us, hl with | [_, _], _ => rfl
  have T__law_word : TopF K mg "_law_word" "_law_word" s__law_word ["_law_d"] := top_z (He.glo_ok X G (c.heF 34)) (c.def_ 19 (d := ⟨fun K => He.ga K "_law_word", "_law_word", "_law_word", s__law_word⟩)) fun _ _ _ _ _ _ us hl => match us, hl with | [_], _ => rfl
  have T__law_take_name : TopF K mg "_law_take_name" "_law_take_name" s__law_take_name ["_law_c"] := top_z (He.glo_ok X G (c.heF 35)) (c.def_ 20 (d := ⟨fun K => He.ga K "_law_take_name", "_law_take_name", "_law_take_name", s__law_take_name⟩)) fun _ _ _ _ _ _ us hl => match us, hl with | [_], _ => rfl
  have T_any_walk_tokens : TopF K mg "any_walk_tokens" "any_walk_tokens" s_any_walk_tokens ["walk"] := top_z (He.glo_ok X G (c.heF 36)) (c.def_ 21 (d := ⟨fun K => He.ga K "any_walk_tokens", "any_walk_tokens", "any_walk_tokens", s_any_walk_tokens⟩)) fun _ _ _ _ _ _ us hl => match us, hl with | [_], _ => rfl
  have T__law_side : TopF K mg "_law_side" "_law_side" s__law_side ["_law_d"] := top_z (He.glo_ok X G (c.heF 37)) (c.def_ 22 (d := ⟨fun K => He.ga K "_law_side", "_law_side", "_law_side", s__law_side⟩)) fun _ _ _ _ _ _ us hl => match us, hl with | [_], _ => rfl
  have T__law_take_side : TopF K mg "_law_take_side" "_law_take_side" s__law_take_side ["_law_c"] := top_z (He.glo_ok X G (c.heF 38)) (c.def_ 23 (d := ⟨fun K => He.ga K "_law_take_side", "_law_take_side", "_law_take_side", s__law_take_side⟩)) fun _ _ _ _ _ _ us hl => match us, hl with | [_], _ => rfl
  have T__law_fact : TopF K mg "_law_fact" "_law_fact" s__law_fact ["_law_d"] := top_z (He.glo_ok X G (c.heF 39)) (c.def_ 24 (d := ⟨fun K => He.ga K "_law_fact", "_law_fact", "_law_fact", s__law_fact⟩)) fun _ _ _ _ _ _ us hl => match us, hl with | [_], _ => rfl
  have T__law_take_atmost : TopF K mg "_law_take_atmost" "_law_take_atmost" s__law_take_atmost ["_law_c"] := top_z (He.glo_ok X G (c.heF 40)) (c.def_ 25 (d := ⟨fun K => He.ga K "_law_take_atmost", "_law_take_atmost", "_law_take_atmost", s__law_take_atmost⟩)) fun _ _ _ _ _ _ us hl => match us, hl with | [_], _ => rfl
  have T__law_take_fact : TopF K mg "_law_take_fact" "_law_take_fact" s__law_take_fact ["_law_c"] := top_z (He.glo_ok X G (c.heF 41)) (c.def_ 26 (d := ⟨fun K => He.ga K "_law_take_fact", "_law_take_fact", "_law_take_fact", s__law_take_fact⟩)) fun _ _ _ _ _ _ us hl => match us, hl with | [_], _ => rfl
  have T__law_take_cond : TopF K mg "_law_take_cond" "_law_take_cond" s__law_take_cond ["_law_c"] := top_z (He.glo_ok X G (c.heF 42)) (c.def_ 27 (d := ⟨fun K => He.ga K "_law_take_cond", "_law_take_cond", "_law_take_cond", s__law_take_cond⟩)) fun _ _ _ _ _ _ us hl => match us, hl with | [_], _ => rfl
  have T__law_whole : TopF K mg "_law_whole" "_law_whole" s__law_whole ["_law_words"] := top_z (He.glo_ok X G (c.heF 43)) (c.def_ 28 (d := ⟨fun K => He.ga K "_law_whole", "_law_whole", "_law_whole", s__law_whole⟩)) fun _ _ _ _ _ _ us hl => match us, hl with | [_], _ => rfl
  have T_cond_tokens : TopF K mg "cond_tokens" "cond_tokens" s_cond_tokens ["cond", "needed"] := top_z (He.glo_ok X G (c.heF 44)) (c.def_ 29 (d := ⟨fun K => He.ga K "cond_tokens", "cond_tokens", "cond_tokens", s_cond_tokens⟩)) fun _ _ _ _ _ _ us hl => match us, hl with | [_, _], _ => rfl
  have T_policy_tokens : TopF K mg "policy_tokens" "policy_tokens" s_policy_tokens ["line"] := top_z (He.glo_ok X G (c.heF 45)) (c.def_ 30 (d := ⟨fun K => He.ga K "policy_tokens", "policy_tokens", "policy_tokens", s_policy_tokens⟩)) fun _ _ _ _ _ _ us hl => match us, hl with | [_], _ => rfl
  have T_write_cond : TopF K mg "write_cond" "write_cond" s_write_cond ["cond"] := top_z (He.glo_ok X G (c.heF 46)) (c.def_ 31 (d := ⟨fun K => He.ga K "write_cond", "write_cond", "write_cond", s_write_cond⟩)) fun _ _ _ _ _ _ us hl => match us, hl with | [_], _ => rfl
  have T_line_tokens : TopF K mg "line_tokens" "line_tokens" s_line_tokens ["line"] := top_z (He.glo_ok X G (c.heF 47)) (c.def_ 32 (d := ⟨fun K => He.ga K "line_tokens", "line_tokens", "line_tokens", s_line_tokens⟩)) fun _ _ _ _ _ _ us hl => match us, hl with | [_], _ => rfl
  have T_write : TopF K mg "write" "write" s_write ["tree"] := top_z (He.glo_ok X G (c.heF 48)) (c.def_ 33 (d := ⟨fun K => He.ga K "write", "write", "write", s_write⟩)) fun _ _ _ _ _ _ us hl => match us, hl with | [_], _ => rfl
  have T__law_given : TopF K mg "_law_given" "_law_given" s__law_given ["_law_d", "_law_deep", "_law_room", "_law_tall"] := top_z (He.glo_ok X G (c.heF 49)) (c.def_ 34 (d := ⟨fun K => He.ga K "_law_given", "_law_given", "_law_given", s__law_given⟩)) fun _ _ _ _ _ _ us hl => match us, hl with | [_, _, _, _], _ => rfl
  have T__law_same : TopF K mg "_law_same" "_law_same" s__law_same ["_law_told", "_law_due"] := top_z (He.glo_ok X G (c.heF 50)) (c.def_ 35 (d := ⟨fun K => He.ga K "_law_same", "_law_same", "_law_same", s__law_same⟩)) fun _ _ _ _ _ _ us hl => match us, hl with | [_, _], _ => rfl
  have T__law_any_cond : TopF K mg "_law_any_cond" "_law_any_cond" s__law_any_cond ["_law_d", "_law_size"] := top_z (He.glo_ok X G (c.heF 51)) (c.def_ 36 (d := ⟨fun K => He.ga K "_law_any_cond", "_law_any_cond", "_law_any_cond", s__law_any_cond⟩)) fun _ _ _ _ _ _ us hl => match us, hl with | [_, _], _ => rfl
  have T__law_is_text : TopF K mg "_law_is_text" "_law_is_text" s__law_is_text ["_law_cond", "_law_words"] := top_z (He.glo_ok X G (c.heF 52)) (c.def_ 37 (d := ⟨fun K => He.ga K "_law_is_text", "_law_is_text", "_law_is_text", s__law_is_text⟩)) fun _ _ _ _ _ _ us hl => match us, hl with | [_, _], _ => rfl
  obtain ⟨fd_law, F_law⟩ : ∃ fd, Fun K "law" "law" s_law (He.ga K "law") fd := c.def_ 38 (d := ⟨fun K => He.ga K "law", "law", "law", s_law⟩)
  have e := hfa.symm.trans (He.glo_ok X G (c.heF 53))
  cases e
  have b_law : ∀ (s : Shared) (v : Value), BindsTo s fd_law ⟨[v], []⟩ [("_law_script", v)] := by
    obtain ⟨oc, od, kV, doc, pm, an, cdv, ct, osl, rfl, lk, hcd⟩ := F_law.ex
    exact fun s v => .of_eq rfl
  refine ⟨fd_law, b_law, fun base _ _ => ?_⟩
  have G_test_tokens : Good l.prog w K mg base 1 "test_tokens" ["tests"] sp_test_tokens := good_test_tokens T_test_tokens B len_test_tokens sat_test_tokens
  have G_enclosed : Good l.prog w K mg base 1 "enclosed" ["tokens", "level", "needed"] sp_enclosed := good_enclosed T_enclosed B len_enclosed sat_enclosed
  have G_table_tokens : Good l.prog w K mg base 1 "table_tokens" ["walk"] sp_table_tokens := good_table_tokens T_table_tokens B len_table_tokens sat_table_tokens
  have G_term_tokens : Good l.prog w K mg base 1 "term_tokens" ["term"] sp_term_tokens := good_term_tokens T_term_tokens B len_term_tokens sat_term_tokens
  have G_act_tokens : Good l.prog w K mg base 1 "act_tokens" ["acts"] sp_act_tokens := good_act_tokens T_act_tokens B len_act_tokens sat_act_tokens
  have G__law_begin : Good l.prog w K mg base 1 "_law_begin" ["_law_script"] sp__law_begin := good__law_begin T__law_begin B len__law_begin sat__law_begin
  have G__law_draw : Good l.prog w K mg base 1 "_law_draw" ["_law_d", "_law_many"] sp__law_draw := good__law_draw T__law_draw B len__law_draw sat__law_draw
  have G__law_is_int : Good l.prog w K mg base 1 "_law_is_int" ["_law_thing"] sp__law_is_int := good__law_is_int T__law_is_int B len__law_is_int sat__law_is_int
  have G__law_reserved : Good l.prog w K mg base 1 "_law_reserved" [] sp__law_reserved := good__law_reserved T__law_reserved B len__law_reserved sat__law_reserved
  have G__law_see : Good l.prog w K mg base 1 "_law_see" ["_law_c"] sp__law_see := good__law_see T__law_see B len__law_see sat__law_see
  have G__law_fold : Good l.prog w K mg base 1 "_law_fold" ["_law_values", "_law_waits", "_law_words"] sp__law_fold := good__law_fold T__law_fold B len__law_fold sat__law_fold
  have G__law_partner : Good l.prog w K mg base 1 "_law_partner" ["_law_words", "_law_start"] sp__law_partner := good__law_partner T__law_partner B len__law_partner sat__law_partner
  have G_atom_tokens : Good l.prog w K mg base 2 "atom_tokens" ["cond"] sp_atom_tokens := good_atom_tokens T_atom_tokens B G_term_tokens len_atom_tokens sat_atom_tokens
  have G__law_pick : Good l.prog w K mg base 2 "_law_pick" ["_law_d", "_law_row"] sp__law_pick := good__law_pick T__law_pick B G__law_draw len__law_pick sat__law_pick
  have G__law_gap : Good l.prog w K mg base 2 "_law_gap" ["_law_d"] sp__law_gap := good__law_gap T__law_gap B G__law_draw len__law_gap sat__law_gap
  have G__law_good_name : Good l.prog w K mg base 2 "_law_good_name" ["_law_thing"] sp__law_good_name := good__law_good_name T__law_good_name B G__law_reserved len__law_good_name sat__law_good_name
  have G__law_take : Good l.prog w K mg base 2 "_law_take" ["_law_c", "_law_word_here"] sp__law_take := good__law_take T__law_take B G__law_see len__law_take sat__law_take
  have G__law_take_number : Good l.prog w K mg base 2 "_law_take_number" ["_law_c", "_law_low", "_law_high"] sp__law_take_number := good__law_take_number T__law_take_number B G__law_see len__law_take_number sat__law_take_number
  have R_walk_tokens : ∀ d, Good l.prog w K mg base (2 + d) "walk_tokens" ["walk", "needed"] (sp_walk_tokens d) := fun d => by
    induction d with
    | zero => exact (Good.no T_walk_tokens).imp fun _ _ _ z => z.elim
    | succ d ih => exact good_walk_tokens T_walk_tokens B G_enclosed ih G_test_tokens (len_walk_tokens (d + 1)) (sat_walk_tokens d)
  have G_walk_tokens : Good l.prog w K mg base 3 "walk_tokens" ["walk", "needed"] (sp_walk_tokens 1) := R_walk_tokens 1
  have G__law_word : Good l.prog w K mg base 3 "_law_word" ["_law_d"] sp__law_word := good__law_word T__law_word B G__law_draw G__law_pick G__law_reserved len__law_word sat__law_word
  have G__law_take_name : Good l.prog w K mg base 3 "_law_take_name" ["_law_c"] sp__law_take_name := good__law_take_name T__law_take_name B G__law_see G__law_good_name len__law_take_name sat__law_take_name
  have G_any_walk_tokens : Good l.prog w K mg base 4 "any_walk_tokens" ["walk"] sp_any_walk_tokens := good_any_walk_tokens T_any_walk_tokens B G_table_tokens G_walk_tokens len_any_walk_tokens sat_any_walk_tokens
  have G__law_side : Good l.prog w K mg base 4 "_law_side" ["_law_d"] sp__law_side := good__law_side T__law_side B G__law_draw G__law_word len__law_side sat__law_side
  have G__law_take_side : Good l.prog w K mg base 4 "_law_take_side" ["_law_c"] sp__law_take_side := good__law_take_side T__law_take_side B G__law_see G__law_take G__law_take_name len__law_take_side sat__law_take_side
  have G__law_fact : Good l.prog w K mg base 5 "_law_fact" ["_law_d"] sp__law_fact := good__law_fact T__law_fact B G__law_draw G__law_word G__law_gap G__law_side len__law_fact sat__law_fact
  have G__law_take_atmost : Good l.prog w K mg base 5 "_law_take_atmost" ["_law_c"] sp__law_take_atmost := good__law_take_atmost T__law_take_atmost B G__law_take_side G__law_take G__law_see G__law_take_number len__law_take_atmost sat__law_take_atmost
  have G__law_take_fact : Good l.prog w K mg base 6 "_law_take_fact" ["_law_c"] sp__law_take_fact := good__law_take_fact T__law_take_fact B G__law_see G__law_take_name G__law_take_atmost G__law_take len__law_take_fact sat__law_take_fact
  have G__law_take_cond : Good l.prog w K mg base 7 "_law_take_cond" ["_law_c"] sp__law_take_cond := good__law_take_cond T__law_take_cond B G__law_see G__law_take_fact G__law_fold len__law_take_cond sat__law_take_cond
  have G__law_whole : Good l.prog w K mg base 8 "_law_whole" ["_law_words"] sp__law_whole := good__law_whole T__law_whole B G__law_take_cond len__law_whole sat__law_whole
  have R_cond_tokens : ∀ d, Good l.prog w K mg base (3 + d) "cond_tokens" ["cond", "needed"] (sp_cond_tokens d) := fun d => by
    induction d with
    | zero => exact (Good.no T_cond_tokens).imp fun _ _ _ z => z.elim
    | succ d ih => exact good_cond_tokens T_cond_tokens B G_enclosed ih G_atom_tokens (len_cond_tokens (d + 1)) (sat_cond_tokens d)
  have G_cond_tokens : Good l.prog w K mg base 17 "cond_tokens" ["cond", "needed"] (sp_cond_tokens 14) := R_cond_tokens 14
  have G_policy_tokens : Good l.prog w K mg base 18 "policy_tokens" ["line"] sp_policy_tokens := good_policy_tokens T_policy_tokens B G_act_tokens G_cond_tokens len_policy_tokens sat_policy_tokens
  have G_write_cond : Good l.prog w K mg base 18 "write_cond" ["cond"] sp_write_cond := good_write_cond T_write_cond B G_cond_tokens len_write_cond sat_write_cond
  have G_line_tokens : Good l.prog w K mg base 19 "line_tokens" ["line"] sp_line_tokens := good_line_tokens T_line_tokens B G_test_tokens G_any_walk_tokens G_cond_tokens G_policy_tokens len_line_tokens sat_line_tokens
  have G_write : Good l.prog w K mg base 20 "write" ["tree"] sp_write := good_write T_write B G_line_tokens len_write sat_write
  have R__law_given : ∀ d, Good l.prog w K mg base (6 + d) "_law_given" ["_law_d", "_law_deep", "_law_room", "_law_tall"] (sp__law_given d) := fun d => by
    induction d with
    | zero => exact (Good.no T__law_given).imp fun _ _ _ z => z.elim
    | succ d ih => exact good__law_given T__law_given B G__law_draw G__law_fact ih (len__law_given (d + 1)) (sat__law_given d)
  have G__law_given : Good l.prog w K mg base 20 "_law_given" ["_law_d", "_law_deep", "_law_room", "_law_tall"] (sp__law_given 14) := R__law_given 14
  have R__law_same : ∀ d, Good l.prog w K mg base (2 + d) "_law_same" ["_law_told", "_law_due"] (sp__law_same d) := fun d => by
    induction d with
    | zero => exact (Good.no T__law_same).imp fun _ _ _ z => z.elim
    | succ d ih => exact good__law_same T__law_same B ih G__law_is_int (len__law_same (d + 1)) (sat__law_same d)
  have G__law_same : Good l.prog w K mg base 20 "_law_same" ["_law_told", "_law_due"] (sp__law_same 18) := R__law_same 18
  have G__law_any_cond : Good l.prog w K mg base 21 "_law_any_cond" ["_law_d", "_law_size"] sp__law_any_cond := good__law_any_cond T__law_any_cond B G__law_draw G__law_given len__law_any_cond sat__law_any_cond
  have G__law_is_text : Good l.prog w K mg base 21 "_law_is_text" ["_law_cond", "_law_words"] sp__law_is_text := good__law_is_text T__law_is_text B G__law_same G__law_whole G__law_partner len__law_is_text sat__law_is_text
  exact (fn_law F_law B G__law_begin G__law_any_cond G_write_cond G__law_is_text G__law_word G_write len_law sat_law).imp fun _ _ _ _ q => q w mg
end DL
open PySem PySem.W PySem.Calls PyProof.Rows
set_option maxRecDepth 100000 in
set_option maxHeartbeats 0 in
theorem PySem.Challenge.cw_leaveledger_k10_conds_written_holds : PySem.Challenge.rw_leaveledger_k10_conds_written.Holds := by
  w_on; o_law
  refine HandSHeadRun.head_any (r := DL.zR) (q := DL.zQ) (H := DL.zH) (ob := DL.zob) (M := 9000) (loose := DL.zN) (kwd := []) DL.zob_eq (by kernel_rfl) (fun s => by kernel_rfl) DL.zrun (by rfl) (by rfl) (by rfl) (by rfl) (by first | assumption | decide +kernel) (by decide +kernel) ⟨rfl, rfl, rfl, rfl, rfl, by decide +kernel⟩ ?hw ?hc
  case hw => w_witness2
  case hc => exact DL.walk_ofZ (l := PySem.Challenge.rw_leaveledger_k10_conds_written) (n := 63) (k := 22) (x := "_law_script") (sp := fun K => DL.lowS0 K) rfl (by decide) rfl ⟨⟨rfl, by decide, by decide⟩, rfl⟩ (fun w mg fa h ⟨K, hK, c⟩ G hmg => ⟨K, hK, DL.zall hK G hmg c⟩) (fun _ _ _ _ hl ho hs => DL.law_start hl ho hs)
