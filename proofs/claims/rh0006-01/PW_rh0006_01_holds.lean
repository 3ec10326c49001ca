import PyProof.Rows.All
import Wide.All
import OpenK.AllK
import Wide.FinOn
import KE.KDictOf
import PySem.Challenge.RW_rh0006_01
set_option Elab.async false
set_option maxRecDepth 100000
set_option linter.unusedVariables false
set_option compiler.extract_closed false
section
open PySem PySem.W PyProof.Rows
namespace Mine
/-- the law's text without its four assignments of a module's own name -/
noncomputable abbrev keepV : List Nat := [0, 2, 3, 4, 6, 7, 8, 9, 10, 12, 13, 14, 15, 16, 17, 18, 19, 20, 21, 22, 23, 24, 26, 27, 28, 29, 30, 31, 32]
noncomputable def vw : Program := { PySem.Challenge.rw_rh0006_01.row.prog with main := { PySem.Challenge.rw_rh0006_01.row.prog.main with body := keepV.filterMap fun i => PySem.Challenge.rw_rh0006_01.row.prog.main.body[i]? } }
noncomputable def bootT (P : Params) : BT := (.node (boot_o_0 P) (.node (boot_o_1 P) (.node (boot_o_3 P) (.node (boot_o_7 P) .nil .nil) .nil) (.node (boot_o_5 P) (.node (boot_o_9 P) .nil .nil) .nil)) (.node (boot_o_2 P) (.node (boot_o_4 P) (.node (boot_o_8 P) .nil .nil) .nil) (.node (boot_o_6 P) (.node (boot_o_10 P) .nil .nil) .nil)))
noncomputable def topRunT (tb : String → Option Builtin) (p : Program) (w : World) (n₀ : Nat) (ann : Option Value) : Nat → SharedT → Thread → Option SharedT
  | 0, _, _ => none
  | n + 1, s, t => match through t with
    | true => some s
    | false => match PySem.W.Fast.tw6613529449190102663 n₀ ann t with
      | false => none
      | true => match PySem.W.Fast.tw10156331382660048174 (PySem.W.Fast.tw11892475500146522536 tb) p w s t with
        | some (s', t') => topRunT tb p w n₀ ann n s' t'
        | none => none
theorem topRunT_of {tb : String → Option Builtin} {p : Program} {w : World} {n₀ : Nat} {ann : Option Value} : ∀ {n : Nat} {s s' : SharedT} {t : Thread}, topRunT tb p w n₀ ann n s t = some s' → topRun tb p w n₀ ann n s.abs t = some s'.abs
  | 0, _, _, _, h => by simp [topRunT] at h
  | n + 1, s, s', t, h => by
    unfold topRunT at h
    unfold topRun
    cases ht : through t with
    | true => rw [ht] at h; cases h; rfl
    | false =>
      rw [ht, ← PySem.W.Fast.te6613529449190102663] at h
      cases hk : stepOk n₀ ann t with
      | false => rw [hk] at h; cases h
      | true =>
        rw [hk, ← PySem.W.Fast.te10156331382660048174, ← PySem.W.Fast.te11892475500146522536] at h
        cases hs : stepT (denote tb) p w s t with
        | none => rw [hs] at h; cases h
        | some q =>
          obtain ⟨s₂, t₂⟩ := q
          rw [hs] at h
          show (match step (denote tb) p w s.abs t with | .go s' t' => topRun tb p w n₀ ann n s' t' | .halt _ _ => none) = _
          rw [stepT_spec hs]
          exact topRunT_of h
noncomputable abbrev lawP : Program := PySem.Challenge.rw_rh0006_01.row.prog
theorem b_tree : ∀ w : World, absHeap (bootT w.params) 11 (boot_heap w.params).life = boot_heap w.params := fun w => by kernel_rfl
theorem b_ns : ∀ w : World, ((boot_heap w.params).isNs mainGlobals && (Array.mk [] : Array GenState).size == 0) = true := fun w => by kernel_rfl
theorem b_size : ∀ w : World, (boot_heap w.params).objs.size = 11 := fun w => by rw [← b_tree w, absHeap_size]
theorem b_plain : opening lawP = plainProg lawP.main.scope.names := by kernel_rfl
theorem b_fence : ∀ s, fenceModules? lawP s = some s := fun s => by kernel_rfl
theorem b_open : ∀ w : World, (fencedOpening treeTable lawP w 4628).map (fun s => (s.heap, s.gens, s.drawn, s.toks)) = some (boot_heap w.params, Array.mk [], boot_drawn, boot_toks) := boot_open b_plain (by decide) b_fence
noncomputable abbrev runT (w : World) (os : OsState) : Option SharedT := topRunT PySem.W.Fast.tw14364793385576792824 lawP w 11 ((boot_heap w.params).nsMap mainGlobals "__annotations__") 4628 ⟨bootT w.params, 11, (boot_heap w.params).life, Array.mk [], boot_drawn, boot_toks, os⟩ (topStub lawP)
theorem left_gen {p q : Program} {loose : List Str} {Xt : Shared → Bool} {α : Type} {Yf : Shared → α} {Ya : World → α} {N m₀ : Nat} {H₀ : Params → Heap} {gs₀ : Array GenState} {d₀ : Drawn} {k₀ : Nat} {run : World → OsState → Option SharedT}
    (open_ : ∀ w : World, (fencedOpening treeTable p w N).map (fun s => (s.heap, s.gens, s.drawn, s.toks)) = some (H₀ w.params, gs₀, d₀, k₀))
    (ns : ∀ w : World, ((H₀ w.params).isNs mainGlobals && gs₀.size == 0) = true) (size : ∀ w : World, (H₀ w.params).objs.size = m₀)
    (goes : ∀ w os s, run w os = some s → topRun treeTable p w m₀ ((H₀ w.params).nsMap mainGlobals "__annotations__") N ⟨H₀ w.params, gs₀, d₀, k₀, os⟩ (topStub p) = some s.abs)
    (h1 : ∀ w os, (run w os).map (fun s => staticsOk (importedModules p.main.body) (H₀ w.params) s.abs.heap && namesBound p s.abs.heap && gensDone s.abs && laidKept (H₀ w.params) s.abs.heap) = some true)
    (h2 : ∀ w os, (run w os).map (fun s => openSeen q loose (importedModules p.main.body) Xt true s.abs) = some (openGood q loose))
    (h3 : ∀ w os, (run w os).map (fun s => Yf s.abs) = some (Ya w)) : LeftO p q loose Xt Yf Ya N := fun w => by
  obtain ⟨⟨h, gs, d, k, os⟩, e, e'⟩ := Option.map_eq_some_iff.mp (open_ w)
  obtain ⟨rfl, rfl, rfl, rfl⟩ : h = H₀ w.params ∧ gs = gs₀ ∧ d = d₀ ∧ k = k₀ := by simpa using e'
  obtain ⟨s1, r, l1⟩ := Option.map_eq_some_iff.mp (h1 w os)
  have l2 := h2 w os
  have l3 := h3 w os
  rw [r] at l2 l3
  replace l2 := Option.some.inj l2
  replace l3 := Option.some.inj l3
  have t : topFrom treeTable p w N ⟨H₀ w.params, gs, d, k, os⟩ = some s1.abs := by
    unfold topFrom
    dsimp only
    rw [ns w, size w, goes w os s1 r]
    show (match staticsOk (importedModules p.main.body) (H₀ w.params) s1.abs.heap && namesBound p s1.abs.heap && gensDone s1.abs && laidKept (H₀ w.params) s1.abs.heap with | true => _ | false => _) = _
    rw [l1]
  unfold openEnds
  rw [e]
  show (topFrom treeTable p w N _).map _ = _
  rw [t]
  exact congrArg some (Prod.ext l2 l3)
theorem goes_gen {tb : String → Option Builtin} {p : Program} {w : World} {N n : Nat} {T : BT} {H : Heap} {lf : Life} {gs : Array GenState} {d : Drawn} {k : Nat} {ann : Option Value} {s : SharedT} {os : OsState} (e : treeTable = tb) (b : absHeap T n lf = H)
    (r : topRunT tb p w n ann N ⟨T, n, lf, gs, d, k, os⟩ (topStub p) = some s) : topRun treeTable p w n ann N ⟨H, gs, d, k, os⟩ (topStub p) = some s.abs := by
  subst e b
  exact topRunT_of r
theorem left_of {q : Program} {loose : List Str} {Xt : Shared → Bool} {α : Type} {Yf : Shared → α} {Ya : World → α}
    (h1 : ∀ w os, (runT w os).map (fun s => staticsOk (importedModules lawP.main.body) (boot_heap w.params) s.abs.heap && namesBound lawP s.abs.heap && gensDone s.abs && laidKept (boot_heap w.params) s.abs.heap) = some true)
    (h2 : ∀ w os, (runT w os).map (fun s => openSeen q loose (importedModules lawP.main.body) Xt true s.abs) = some (openGood q loose))
    (h3 : ∀ w os, (runT w os).map (fun s => Yf s.abs) = some (Ya w)) : LeftO lawP q loose Xt Yf Ya 4628 :=
  left_gen (H₀ := boot_heap) b_open b_ns b_size (fun w _ _ r => goes_gen PySem.W.Fast.te14364793385576792824 (b_tree w) r) h1 h2 h3
theorem left1 : ∀ w os, (runT w os).map (fun s => staticsOk (importedModules lawP.main.body) (boot_heap w.params) s.abs.heap && namesBound lawP s.abs.heap && gensDone s.abs && laidKept (boot_heap w.params) s.abs.heap) = some true := fun w os => by kernel_rfl
theorem left2 : ∀ w os, (runT w os).map (fun s => openSeen vw [] (importedModules lawP.main.body) (fun s => xlAt vw [] s && recOk PySem.Challenge.rw_rh0006_01.row.records s) true s.abs) = some (openGood vw []) := by
  rw [PySem.W.Fast.te4187177175401517315]
  exact fun w os => by kernel_rfl
set_option maxHeartbeats 0 in
theorem law_said : OpenLaw.wellSaid PySem.Challenge.rw_rh0006_01 = true := by
  rw [PySem.W.Fast.te9446332074065402090]
  delta PySem.W.Fast.tw9446332074065402090
  repeat' with_reducible refine look_both ?_ ?_
  all_goals (try delta PySem.W.Fast.tw17960256430627541270)
  repeat' with_reducible refine look_both ?_ ?_
  all_goals (try delta PySem.W.Fast.tw2436336058641802641)
  repeat' with_reducible refine look_both ?_ ?_
  all_goals (try delta PySem.W.Fast.tw12908688711261696721)
  repeat' with_reducible refine look_both ?_ ?_
  all_goals (as_aux_lemma => kernel_rfl)
local macro_rules | `(tactic| o_law) => `(tactic| refine holds_law law_said fun said => ?_)
theorem hopen {d : DefRec} {kwd : List (Str × Expr)} (H : Hook) (left : LeftO PySem.Challenge.rw_rh0006_01.row.prog vw [] (fun s => xlAt vw [] s && recOk PySem.Challenge.rw_rh0006_01.row.records s) (Hook.obs H) (Hook.val H) 4628) (hdef : defOf vw PySem.Challenge.rw_rh0006_01.row.name = some (d, kwd)) (hp : PySem.Challenge.rw_rh0006_01.row.prog.theDef PySem.Challenge.rw_rh0006_01.row.name = some (d.params, d.body, d.scope)) (hk : kwWritten? d.params.kwonlyargs d.params.kw_defaults = some kwd)
    (k1 : PySem.Challenge.rw_rh0006_01.row.wellSaid = true) (hw : PySem.Challenge.rw_rh0006_01.row.toRowW.promised) (call : WalkO vw [] (XL vw []) (Hook.says H) PySem.Challenge.rw_rh0006_01.row.toRowW d kwd fun f vs => PySem.call f vs) : PySem.Challenge.rw_rh0006_01.row.Holds :=
  holds_open (q := vw) (loose := []) (XP := XL vw []) left (Hook.of H) (Hook.keeps H) (fun s e => xl_of s (Bool.and_eq_true_iff.mp e).1) XL.keeps hdef hp hk (fun s e => recFacts_of (Bool.and_eq_true_iff.mp e).2) (by rfl) k1 (by decide +kernel) ⟨rfl, rfl, rfl, rfl, rfl, by decide +kernel⟩ hw call
local macro_rules | `(tactic| o_head $H) => do
  let hw := Lean.mkIdent `hw
  let hc := Lean.mkIdent `hc
  `(tactic| refine hopen $H (left_of left1 left2 fun w os => by kernel_rfl) (by rfl) (by rfl) (by rfl) (by assumption) ?$hw ?$hc)
set_option maxRecDepth 100000 in
set_option maxHeartbeats 0 in
open_top hd for PySem.Challenge.rw_rh0006_01
end Mine
end
open PySem PySem.W PySem.Calls PyProof.Rows PySem.Spec
set_option maxHeartbeats 2000000
namespace Mine
/-! ## data -/
mutual
inductive TD (h : Heap) : Value → PyData → Prop
  | int (i t) : TD h (.int i t) (.int i)
  | bool (b) : TD h (.bool b) (.bool b)
  | str (x t) : TD h (.str x t) (.str x)
  | tup {a vs n ds} : IsT h a vs n → TDs h vs.toList ds → TD h (.ref a) (.tuple ds)
inductive TDs (h : Heap) : List Value → List PyData → Prop
  | nil : TDs h [] []
  | cons {v vs d ds} : TD h v d → TDs h vs ds → TDs h (v :: vs) (d :: ds)
end

noncomputable def TLe (h h' : Heap) : Prop := ∀ a o vs n, h.get? a = some o → o.cls = .type "tuple" → o.data = .seq vs n → h'.get? a = some o
noncomputable def Le (h h' : Heap) : Prop := ∀ b o, h.get? b = some o → h'.get? b = some o

theorem TLe.refl (h : Heap) : TLe h h := fun _ _ _ _ e _ _ => e
theorem TLe.trans {a b c : Heap} (x : TLe a b) (y : TLe b c) : TLe a c := fun p o vs n e h1 h2 => y p o vs n (x p o vs n e h1 h2) h1 h2
theorem Le.refl (h : Heap) : Le h h := fun _ _ e => e
theorem Le.trans {a b c : Heap} (x : Le a b) (y : Le b c) : Le a c := fun p o e => y p o (x p o e)
theorem Le.tle {a b : Heap} (x : Le a b) : TLe a b := fun p o _ _ e _ _ => x p o e
theorem Le.push (h : Heap) (o : Obj) : Le h (h.push o) := fun _ _ e => Heap.get?_push_of_some _ e

theorem TLe.isT {h h' : Heap} (x : TLe h h') {a vs n} (t : IsT h a vs n) : IsT h' a vs n := x _ _ _ _ t rfl rfl

mutual
theorem TD.mono {h h' : Heap} (x : TLe h h') : ∀ {v d}, TD h v d → TD h' v d
  | _, _, .int i t => .int i t
  | _, _, .bool b => .bool b
  | _, _, .str s t => .str s t
  | _, _, .tup t r => .tup (x.isT t) (TDs.mono x r)
theorem TDs.mono {h h' : Heap} (x : TLe h h') : ∀ {vs ds}, TDs h vs ds → TDs h' vs ds
  | _, _, .nil => .nil
  | _, _, .cons d r => .cons (TD.mono x d) (TDs.mono x r)
end

theorem TDs.length {h : Heap} {vs ds} (x : TDs h vs ds) : vs.length = ds.length := by
  induction vs generalizing ds with
  | nil => cases x; rfl
  | cons v vs ih => cases x with | cons _ r => simp [ih r]
theorem TDs.append {h : Heap} {vs ds ws es} (x : TDs h vs ds) (y : TDs h ws es) : TDs h (vs ++ ws) (ds ++ es) := by
  induction vs generalizing ds with
  | nil => cases x; exact y
  | cons v vs ih => cases x with | cons d r => exact .cons d (ih r)
theorem TDs.one {h : Heap} {v d} (x : TD h v d) : TDs h [v] [d] := .cons x .nil
theorem TDs.get {h : Heap} {vs ds} (x : TDs h vs ds) {i : Nat} {d} (e : ds[i]? = some d) : ∃ v, vs[i]? = some v ∧ TD h v d := by
  induction vs generalizing ds i with
  | nil => cases x; simp at e
  | cons v vs ih =>
    cases x with
    | cons a r =>
      cases i with
      | zero => simp at e; subst e; exact ⟨v, rfl, a⟩
      | succ i => exact ih r (by simpa using e)
theorem TDs.getV {h : Heap} {vs ds} (x : TDs h vs ds) {i : Nat} {v} (e : vs[i]? = some v) : ∃ d, ds[i]? = some d ∧ TD h v d := by
  induction vs generalizing ds i with
  | nil => simp at e
  | cons v vs ih =>
    cases x with
    | cons a r =>
      cases i with
      | zero => simp at e; subst e; exact ⟨_, rfl, a⟩
      | succ i => exact ih r (by simpa using e)
theorem TDs.drop {h : Heap} {vs ds} (x : TDs h vs ds) : ∀ n, TDs h (vs.drop n) (ds.drop n) := by
  induction vs generalizing ds with
  | nil => cases x; intro n; simpa using TDs.nil
  | cons v vs ih =>
    cases x with
    | cons a r =>
      intro n
      cases n with
      | zero => exact .cons a r
      | succ n => exact ih r n
theorem TDs.take {h : Heap} {vs ds} (x : TDs h vs ds) : ∀ n, TDs h (vs.take n) (ds.take n) := by
  induction vs generalizing ds with
  | nil => cases x; intro n; simpa using TDs.nil
  | cons v vs ih =>
    cases x with
    | cons a r =>
      intro n
      cases n with
      | zero => exact .nil
      | succ n => exact .cons a (ih r n)
theorem TDs.reverse {h : Heap} {vs ds} (x : TDs h vs ds) : TDs h vs.reverse ds.reverse := by
  induction vs generalizing ds with
  | nil => cases x; exact .nil
  | cons v vs ih =>
    cases x with
    | cons a r => rw [List.reverse_cons, List.reverse_cons]; exact (ih r).append (.one a)
theorem TDs.snoc {h : Heap} {vs} {ds : List PyData} {d} (x : TDs h vs (ds ++ [d])) : ∃ ws w, vs = ws ++ [w] ∧ TDs h ws ds ∧ TD h w d := by
  have hr := x.reverse
  rw [List.reverse_append] at hr
  generalize hv : vs.reverse = us at hr
  cases hr with
  | cons a r =>
    rename_i v us
    refine ⟨us.reverse, v, ?_, ?_, a⟩
    · rw [← List.reverse_reverse vs, hv]; simp
    · have := r.reverse; simpa using this
theorem TDs.arr {h : Heap} {vs : List Value} {ds} (x : TDs h vs ds) : TDs h vs.toArray.toList ds := by simpa using x

theorem TD.int_inv {h : Heap} {v i} (x : TD h v (.int i)) : ∃ t, v = .int i t := by cases x; exact ⟨_, rfl⟩
theorem TD.str_inv {h : Heap} {v i} (x : TD h v (.str i)) : ∃ t, v = .str i t := by cases x; exact ⟨_, rfl⟩
theorem TD.bool_inv {h : Heap} {v i} (x : TD h v (.bool i)) : v = .bool i := by cases x; rfl
theorem TD.tup_inv {h : Heap} {v ds} (x : TD h v (.tuple ds)) : ∃ a vs n, v = .ref a ∧ IsT h a vs n ∧ TDs h vs.toList ds := by
  cases x with | tup t r => exact ⟨_, _, _, rfl, t, r⟩

mutual
theorem TD.reads {h : Heap} : ∀ {v d}, TD h v d → Reads h v d []
  | _, _, .int i t => .int i t
  | _, _, .bool b => .bool b
  | _, _, .str s t => .str s t
  | _, _, .tup t r => .tuple t rfl rfl (TDs.reads r)
theorem TDs.reads {h : Heap} : ∀ {vs ds}, TDs h vs ds → ReadsAll h vs ds []
  | _, _, .nil => .nil
  | _, _, .cons d r => .cons (as := []) (TD.reads d) (TDs.reads r)
end

/-! ## the objects that may turn -/
inductive MO where
  | lst (vs : List Value)
  | ld (ds : List PyData)
  | cell (v : Value)
  | cellU
  | cellD (d : PyData)
  | obj (o : Obj)
  | kd (xs : List (List Int × Addr × Value))
  | sd (kvs : List (Str × Value))
  | feed (rl : Addr) (b : Int)
  | itr (c : String) (fs : Array Value)
  | enum (it : Addr) (i : Int)

noncomputable abbrev KK (prog : Program) (w : World) : HeapKind prog w (List Int) := tupleKind (intKind prog w)
noncomputable abbrev lobj (vs : List Value) (n : Nat) : Obj := { cls := .type "list", dict := none, data := .seq vs.toArray n, slots := #[] }

noncomputable def MO.Is (prog : Program) (w : World) (h : Heap) (a : Addr) : MO → Prop
  | .lst vs => ∃ n, h.get? a = some (lobj vs n)
  | .ld ds => ∃ vs n, h.get? a = some (lobj vs n) ∧ TDs h vs ds
  | .cell v => h.IsCell a (some v)
  | .cellU => ∃ x, h.IsCell a x
  | .cellD d => ∃ v, h.IsCell a (some v) ∧ TD h v d
  | .obj o => h.get? a = some o ∧ o.cls ≠ .type "tuple"
  | .kd xs => h.DictOfH (KK prog w) a xs
  | .sd kvs => h.DictOf (strKind prog w) a kvs
  | .feed rl b => ∃ k t, 0 ≤ k ∧ k ≤ b ∧ h.DictOf (strKind prog w) a [(Str.ofString "row", .ref rl), (Str.ofString "at", .int k t)]
  | .itr c fs => ∃ o, h.get? a = some o ∧ o.cls = .type c ∧ o.data = .fields fs
  | .enum it i => ∃ old, IsEnum h a it i old

section
variable {prog : Program} {w : World}
theorem MO.Is.at {h h' : Heap} {a : Addr} {mo : MO} (x : mo.Is prog w h a) (t : TLe h h') (k : ∀ o, h.get? a = some o → h'.get? a = some o) : mo.Is prog w h' a := by
  cases mo with
  | lst vs => obtain ⟨n, e⟩ := x; exact ⟨n, k _ e⟩
  | ld ds => obtain ⟨vs, n, e, r⟩ := x; exact ⟨vs, n, k _ e, r.mono t⟩
  | cell v => obtain ⟨o, e, r⟩ := x; exact ⟨o, k _ e, r⟩
  | cellU => obtain ⟨v, o, e, r⟩ := x; exact ⟨v, o, k _ e, r⟩
  | cellD d => obtain ⟨v, ⟨o, e, r⟩, T⟩ := x; exact ⟨v, ⟨o, k _ e, r⟩, T.mono t⟩
  | obj o => exact ⟨k _ x.1, x.2⟩
  | kd xs =>
    obtain ⟨o, es, ep, e, h1, h2, h3, h4, h5⟩ := x
    refine ⟨o, es, ep, k _ e, h1, h2, h3, fun y hy => ?_, h5⟩
    obtain ⟨o', items, n, e1, e2, e3, e4⟩ := h4 y hy
    exact ⟨o', items, n, t _ _ _ _ e1 e2 e3, e2, e3, e4⟩
  | sd kvs => obtain ⟨o, es, ep, e, r⟩ := x; exact ⟨o, es, ep, k _ e, r⟩
  | feed rl b => obtain ⟨j, t, h1, h2, o, es, ep, e, r⟩ := x; exact ⟨j, t, h1, h2, o, es, ep, k _ e, r⟩
  | itr c fs => obtain ⟨o, e, r⟩ := x; exact ⟨o, k _ e, r⟩
  | enum it i => obtain ⟨old, e⟩ := x; exact ⟨old, k _ e⟩
theorem MO.Is.ex {h : Heap} {a : Addr} {mo : MO} (x : mo.Is prog w h a) : ∃ o, h.get? a = some o := by
  cases mo with
  | lst vs => obtain ⟨n, e⟩ := x; exact ⟨_, e⟩
  | ld ds => obtain ⟨vs, n, e, r⟩ := x; exact ⟨_, e⟩
  | cell v => obtain ⟨o, e, r⟩ := x; exact ⟨_, e⟩
  | cellU => obtain ⟨v, o, e, r⟩ := x; exact ⟨_, e⟩
  | cellD d => obtain ⟨v, ⟨o, e, r⟩, T⟩ := x; exact ⟨_, e⟩
  | obj o => exact ⟨_, x.1⟩
  | kd xs => obtain ⟨o, _, _, e, _⟩ := x; exact ⟨o, e⟩
  | sd kvs => obtain ⟨o, _, _, e, _⟩ := x; exact ⟨o, e⟩
  | feed rl b => obtain ⟨_, _, _, _, o, _, _, e, _⟩ := x; exact ⟨o, e⟩
  | itr c fs => obtain ⟨o, e, _⟩ := x; exact ⟨o, e⟩
  | enum it i => obtain ⟨old, e⟩ := x; exact ⟨_, e⟩
theorem MO.Is.notTup {h : Heap} {a : Addr} {mo : MO} (x : mo.Is prog w h a) {o : Obj} {vs n} (e : h.get? a = some o) (hc : o.cls = .type "tuple") (hd : o.data = .seq vs n) : False := by
  cases mo with
  | lst ws => obtain ⟨k, e'⟩ := x; rw [e] at e'; cases e'; exact absurd (show Value.type "list" = Value.type "tuple" from hc) (by decide)
  | ld ds => obtain ⟨_, k, e', _⟩ := x; rw [e] at e'; cases e'; exact absurd (show Value.type "list" = Value.type "tuple" from hc) (by decide)
  | cell v => obtain ⟨o', e', hd'⟩ := x; rw [e] at e'; cases e'; rw [hd] at hd'; cases hd'
  | cellU => obtain ⟨v, o', e', hd'⟩ := x; rw [e] at e'; cases e'; rw [hd] at hd'; cases hd'
  | cellD d => obtain ⟨v, ⟨o', e', hd'⟩, T⟩ := x; rw [e] at e'; cases e'; rw [hd] at hd'; cases hd'
  | obj o' => obtain ⟨e', hn⟩ := x; rw [e] at e'; cases e'; exact hn hc
  | kd xs => obtain ⟨o', es, ep, e', _, hd', _⟩ := x; rw [e] at e'; cases e'; rw [hd] at hd'; cases hd'
  | sd kvs => obtain ⟨o', es, ep, e', _, hd', _⟩ := x; rw [e] at e'; cases e'; rw [hd] at hd'; cases hd'
  | feed rl b => obtain ⟨_, _, _, _, o', es, ep, e', _, hd', _⟩ := x; rw [e] at e'; cases e'; rw [hd] at hd'; cases hd'
  | itr c fs => obtain ⟨o', e', _, hd'⟩ := x; rw [e] at e'; cases e'; rw [hd] at hd'; cases hd'
  | enum it i => obtain ⟨old, e'⟩ := x; have e2 := e.symm.trans e'; cases e2; cases hd
end

structure Gd (K : Frag) (mg mb : Str → Option Value) (h : Heap) : Prop where
  inK : K.In h
  g : h.Ns mainGlobals mg
  b : h.Ns builtinsNs mb
  bi : ∀ x : Str, x ≠ "__name__" → mb x = bootBuiltins x
  nl : h.NoLimit
theorem Gd.le {K : Frag} {mg mb : Str → Option Value} {h h' : Heap} (x : Gd K mg mb h) (k : Le h h') : Gd K mg mb h' :=
  ⟨fun a o e => k _ _ (x.inK a o e), x.g.keeps k, x.b.keeps k, x.bi, x.nl.keeps k⟩

/-- the context of a call: no frame yet -/
structure Cx (prog : Program) (w : World) (K : Frag) (mg mb : Str → Option Value) (h₀ : Heap) (mu : List (Addr × MO)) (fs : List (Value × PyData)) (h : Heap) : Prop where
  gd : Gd K mg mb h₀
  keep : Le h₀ h
  mus : ∀ p ∈ mu, p.2.Is prog w h p.1 ∧ h₀.get? p.1 = none
  nd : (mu.map (·.1)).Nodup
  tds : ∀ p ∈ fs, TD h p.1 p.2
/-- the state of a frame whose names lie at L -/
structure St (prog : Program) (w : World) (K : Frag) (mg mb : Str → Option Value) (h₀ : Heap) (L : Addr) (m : Str → Option Value) (mu : List (Addr × MO)) (fs : List (Value × PyData)) (h : Heap) : Prop where
  cx : Cx prog w K mg mb h₀ mu fs h
  ns : h.Ns L m
  off : h₀.get? L = none
  ne : ∀ p ∈ mu, p.1 ≠ L

inductive Up (a : Addr) (mo mo' : MO) : List (Addr × MO) → List (Addr × MO) → Prop
  | head {r} : Up a mo mo' ((a, mo) :: r) ((a, mo') :: r)
  | tail {p r r'} : Up a mo mo' r r' → Up a mo mo' (p :: r) (p :: r')
theorem Up.mem {a mo mo'} : ∀ {l l'}, Up a mo mo' l l' → (a, mo) ∈ l
  | _, _, .head => .head _
  | _, _, .tail u => .tail _ u.mem
theorem Up.fst {a mo mo'} : ∀ {l l'}, Up a mo mo' l l' → l'.map (·.1) = l.map (·.1)
  | _, _, .head => rfl
  | _, _, .tail u => by simp [u.fst]
theorem Up.of {a mo mo'} : ∀ {l l'}, Up a mo mo' l l' → (l.map (·.1)).Nodup → ∀ p ∈ l', p = (a, mo') ∨ (p ∈ l ∧ p.1 ≠ a)
  | _, _, .head, nd, p, hp => by
    rw [List.map_cons, List.nodup_cons] at nd
    rcases List.mem_cons.mp hp with rfl | hp
    · exact .inl rfl
    · exact .inr ⟨.tail _ hp, fun e => nd.1 (List.mem_map.mpr ⟨p, hp, e⟩)⟩
  | _, _, .tail (p := q) u, nd, p, hp => by
    rw [List.map_cons, List.nodup_cons] at nd
    rcases List.mem_cons.mp hp with rfl | hp
    · exact .inr ⟨.head _, fun e => nd.1 (List.mem_map.mpr ⟨(a, mo), u.mem, e.symm⟩)⟩
    · rcases u.of nd.2 p hp with h | ⟨h1, h2⟩
      · exact .inl h
      · exact .inr ⟨.tail _ h1, h2⟩

section
variable {prog : Program} {w : World} {K : Frag} {mg mb : Str → Option Value} {h₀ h h' : Heap} {L : Addr} {m m' : Str → Option Value} {mu mu' : List (Addr × MO)} {fs fs' : List (Value × PyData)}

theorem Ns.notTup {h : Heap} {L : Addr} {m} (x : h.Ns L m) {o : Obj} {vs n} (e : h.get? L = some o) (hd : o.data = .seq vs n) : False := by
  obtain ⟨o', es, ep, e', hd', _⟩ := x; rw [e] at e'; cases e'; rw [hd] at hd'; cases hd'

/-- everything stays but what may turn -/
theorem St.tle (S : St prog w K mg mb h₀ L m mu fs h) (k : ∀ b o, b ≠ L → b ∉ mu.map (·.1) → h.get? b = some o → h'.get? b = some o) : TLe h h' := by
  intro a o vs n e hc hd
  refine k a o (fun q => ?_) (fun q => ?_) e
  · subst q; exact Ns.notTup S.ns e hd
  · obtain ⟨p, hp, rfl⟩ := List.mem_map.mp q
    exact (S.cx.mus p hp).1.notTup e hc hd

theorem St.ext (S : St prog w K mg mb h₀ L m mu fs h) (k : Le h h') : St prog w K mg mb h₀ L m mu fs h' :=
  ⟨⟨S.cx.gd, S.cx.keep.trans k, fun p hp => ⟨(S.cx.mus p hp).1.at k.tle fun o => k _ o, (S.cx.mus p hp).2⟩, S.cx.nd, fun p hp => (S.cx.tds p hp).mono k.tle⟩, S.ns.keeps k, S.off, S.ne⟩
theorem Cx.ext (S : Cx prog w K mg mb h₀ mu fs h) (k : Le h h') : Cx prog w K mg mb h₀ mu fs h' :=
  ⟨S.gd, S.keep.trans k, fun p hp => ⟨(S.mus p hp).1.at k.tle fun o => k _ o, (S.mus p hp).2⟩, S.nd, fun p hp => (S.tds p hp).mono k.tle⟩

theorem St.loc (S : St prog w K mg mb h₀ L m mu fs h) (hn : h'.Ns L m') (hs : Heap.ExtBut L h h') : St prog w K mg mb h₀ L m' mu fs h' := by
  have t : TLe h h' := S.tle fun b o hb _ e => hs b o hb e
  refine ⟨⟨S.cx.gd, fun b o e => hs b o (fun q => ?_) (S.cx.keep b o e), fun p hp => ⟨(S.cx.mus p hp).1.at t fun o e => hs _ o (S.ne p hp) e, (S.cx.mus p hp).2⟩, S.cx.nd, fun p hp => (S.cx.tds p hp).mono t⟩, hn, S.off, S.ne⟩
  have := S.off; rw [← q, e] at this; cases this

theorem St.upd {a : Addr} {mo mo' : MO} (S : St prog w K mg mb h₀ L m mu fs h) (u : Up a mo mo' mu mu') (hi : mo'.Is prog w h' a) (hs : Heap.ExtBut a h h') : St prog w K mg mb h₀ L m mu' fs h' := by
  have hm := S.cx.mus _ u.mem
  have haL := S.ne _ u.mem
  have t : TLe h h' := S.tle fun b o _ hb e => hs b o (fun q => hb (q ▸ List.mem_map_of_mem u.mem)) e
  refine ⟨⟨S.cx.gd, fun b o e => hs b o (fun q => ?_) (S.cx.keep b o e), fun p hp => ?_, u.fst ▸ S.cx.nd, fun p hp => (S.cx.tds p hp).mono t⟩, S.ns.extBut hs (Ne.symm haL), S.off, fun p hp => ?_⟩
  · rw [q, hm.2] at e; cases e
  · rcases u.of S.cx.nd p hp with rfl | ⟨h1, h2⟩
    · exact ⟨hi, hm.2⟩
    · exact ⟨(S.cx.mus p h1).1.at t fun o e => hs _ o h2 e, (S.cx.mus p h1).2⟩
  · rcases u.of S.cx.nd p hp with rfl | ⟨h1, _⟩
    · exact haL
    · exact S.ne p h1

theorem Le.none_of_size (k : Le h₀ h) : h₀.get? h.objs.size = none := by
  cases e : h₀.get? h.objs.size with
  | none => rfl
  | some o => exact absurd (Heap.lt_size (k _ _ e)) (Nat.lt_irrefl _)

theorem St.new {o : Obj} {mo : MO} (S : St prog w K mg mb h₀ L m mu fs h) (hi : mo.Is prog w (h.push o) h.objs.size) : St prog w K mg mb h₀ L m ((h.objs.size, mo) :: mu) fs (h.push o) := by
  have S' := S.ext (Le.push h o)
  refine ⟨⟨S'.cx.gd, S'.cx.keep, fun p hp => ?_, ?_, S'.cx.tds⟩, S'.ns, S'.off, fun p hp => ?_⟩
  · rcases List.mem_cons.mp hp with rfl | hp
    · exact ⟨hi, S.cx.keep.none_of_size⟩
    · exact S'.cx.mus p hp
  · rw [List.map_cons, List.nodup_cons]
    refine ⟨fun q => ?_, S'.cx.nd⟩
    obtain ⟨p, hp, e⟩ := List.mem_map.mp q
    obtain ⟨o', e'⟩ := (S.cx.mus p hp).1.ex
    have : p.1 < h.objs.size := Heap.lt_size e'
    rw [e] at this; exact Nat.lt_irrefl _ this
  · rcases List.mem_cons.mp hp with rfl | hp
    · intro q
      obtain ⟨o', _, _, e', _⟩ := S.ns
      have hlt : L < h.objs.size := Heap.lt_size e'
      have q' : h.objs.size = L := q
      rw [q'] at hlt; exact Nat.lt_irrefl _ hlt
    · exact S'.ne p hp

theorem St.fact {v d} (S : St prog w K mg mb h₀ L m mu fs h) (t : TD h v d) : St prog w K mg mb h₀ L m mu ((v, d) :: fs) h :=
  ⟨⟨S.cx.gd, S.cx.keep, S.cx.mus, S.cx.nd, fun p hp => by rcases List.mem_cons.mp hp with rfl | hp; exact t; exact S.cx.tds p hp⟩, S.ns, S.off, S.ne⟩
theorem Cx.fact {v d} (S : Cx prog w K mg mb h₀ mu fs h) (t : TD h v d) : Cx prog w K mg mb h₀ mu ((v, d) :: fs) h :=
  ⟨S.gd, S.keep, S.mus, S.nd, fun p hp => by rcases List.mem_cons.mp hp with rfl | hp; exact t; exact S.tds p hp⟩
theorem St.sub (S : St prog w K mg mb h₀ L m mu fs h) (hm : ∀ p ∈ mu', p ∈ mu) (nd : (mu'.map (·.1)).Nodup) : St prog w K mg mb h₀ L m mu' fs h :=
  ⟨⟨S.cx.gd, S.cx.keep, fun p hp => S.cx.mus p (hm p hp), nd, S.cx.tds⟩, S.ns, S.off, fun p hp => S.ne p (hm p hp)⟩
theorem St.facts (S : St prog w K mg mb h₀ L m mu fs h) (hm : ∀ p ∈ fs', p ∈ fs) : St prog w K mg mb h₀ L m mu fs' h :=
  ⟨⟨S.cx.gd, S.cx.keep, S.cx.mus, S.cx.nd, fun p hp => S.cx.tds p (hm p hp)⟩, S.ns, S.off, S.ne⟩
theorem St.drop1 {p} (S : St prog w K mg mb h₀ L m (p :: mu) fs h) : St prog w K mg mb h₀ L m mu fs h :=
  S.sub (fun _ h => .tail _ h) (List.nodup_cons.mp S.cx.nd).2
theorem St.td (S : St prog w K mg mb h₀ L m mu fs h) {v d} (hm : (v, d) ∈ fs) : TD h v d := S.cx.tds _ hm
theorem St.mo (S : St prog w K mg mb h₀ L m mu fs h) {a mo} (hm : (a, mo) ∈ mu) : mo.Is prog w h a := (S.cx.mus _ hm).1
theorem St.gdh (S : St prog w K mg mb h₀ L m mu fs h) : Gd K mg mb h := S.cx.gd.le S.cx.keep
end

/-! ## room -/
structure Rm (A : Around) (n : Nat) : Prop where
  hh : A.handled = none
  dp : A.depth + n < recursionLimit
  un : A.units + 10 * n + 200 < cLine
theorem Rm.deeper {A : Around} {n : Nat} (r : Rm A (n + 1)) (env : Env) : Rm (A.deeper env) n :=
  ⟨r.hh, by have := r.dp; show A.depth + 1 + n < _; omega, by have := r.un; show A.units + 3 + 10 * n + 200 < _; omega⟩
theorem Rm.le {A : Around} {n k : Nat} (r : Rm A n) (h : k ≤ n) : Rm A k := ⟨r.hh, by have := r.dp; omega, by have := r.un; omega⟩
section
variable {prog : Program} {w : World} {K : Frag} {mg mb : Str → Option Value} {h₀ h h' : Heap} {L : Addr} {m m' : Str → Option Value} {mu mu' : List (Addr × MO)} {fs fs' : List (Value × PyData)}
  {A : Around} {E : Value → Shared → Prop} {g : Array GenState} {dr : Drawn} {os : OsState} {tk : Nat} {env : Env}

/-! ## entering a def -/
/-- a def's frame -/
noncomputable def fenv (scope : Scope) (L : Addr) (cl : List (Str × Addr)) (qual : Str) (f : Addr) (cd : Value) : Env := newEnv scope L mainGlobals cl (qual ++ ".<locals>.") (some f) cd none builtinsNs
noncomputable def mOf (binds : List (Str × Value)) : Str → Option Value := fun x => binds.reverse.lookup x

theorem enter {f : Addr} {oc : Value} {od : Option Addr} {osl : Array (Option Value)} {name qual : Str} {params : Arguments} {body : List Stmt} {scope : Scope} {dV kV doc pm cdv ct : Value} {an : Option Addr}
    {args : List Value} (binds : List (Str × Value)) {n : Nat} {Q : Value → Shared → Prop}
    (C : Cx prog w K mg mb h₀ mu fs h) (R : Rm A (n + 1)) (ho : K.lookup f = some ⟨oc, od, .func (fnOf name qual params body scope dV kV doc pm an cdv ct), osl⟩) (hcd : codeIn K cdv qual = true)
    (hbind : bindArgs (fnOf name qual params body scope dV kV doc pm an cdv ct) ⟨args, []⟩ = pure binds) (hcell : (scope.names.all fun x => x.2 != .cell) = true) (hloc : (binds.all fun x => decide (scope.names.lookup x.1 = some .local)) = true)
    (k : ∀ A' L h₁ tk, Rm A' n → St prog w K mg mb h₀ L (mOf binds) mu fs h₁ →
      wpAny (model prog w) A' (execs body (fenv scope L [] qual f cdv)) (fun fl s' => Q (match fl with | .ret v => v | _ => .none) s') (fun _ _ => False) ⟨h₁, g, dr, tk, os⟩)
    (hco : scope.isCoroutine = false := by k_dflt rfl) (hgen : scope.isGenerator = false := by k_dflt rfl) (hk : scope.kind = .function := by k_dflt rfl) :
    wpAny (model prog w) A (call (.ref f) args) Q E ⟨h, g, dr, tk, os⟩ := by
  have G := C.gd.le C.keep
  have hcell' : ∀ x ∈ scope.names, x.2 ≠ .cell := fun x hx => by have := List.all_eq_true.mp hcell x hx; simpa using this
  refine wpAny_call (codeAny_call_def (fd := fnOf name qual params body scope dV kV doc pm an cdv ct) (by have := R.dp; omega) (G.inK _ _ ho) rfl G.nl (codeRec_of G.inK hcd) rfl (BindsTo.of_eq hbind) hcell' (fun x hx => of_decide_eq_true (List.all_eq_true.mp hloc x hx)) (fun h₁ hns hk₁ => ?_) hco hgen hk)
  refine wpAny_mono (k _ _ h₁ _ (R.deeper _) ⟨C.ext hk₁, hns, C.keep.none_of_size, fun p hp q => ?_⟩) (fun _ _ x => x) fun _ _ x => x.elim
  obtain ⟨o', e'⟩ := (C.mus p hp).1.ex
  have := Heap.lt_size e'
  rw [q] at this; exact Nat.lt_irrefl _ this

/-- what stands in a cell at the start -/
noncomputable def cellMO : Option Value → MO
  | some v => .cell v
  | none => .cellU
theorem cellMO_is {v : Option Value} {c : Addr} (x : h.IsCell c v) : (cellMO v).Is prog w h c := by
  cases v with
  | some v => exact x
  | none => exact ⟨_, x⟩
theorem lookup_of_nodup {β : Type} : ∀ {l : List (Str × β)} {n : Str} {c : β}, (l.map (·.1)).Nodup → (n, c) ∈ l → l.lookup n = some c
  | [], _, _, _, h => nomatch h
  | (n', c') :: l, n, c, nd, h => by
    rw [List.map_cons, List.nodup_cons] at nd
    rw [List.lookup_cons]
    rcases List.mem_cons.mp h with h | h
    · cases h; simp
    · have : (n == n') = false := by
        refine beq_eq_false_iff_ne.mpr fun q => ?_
        exact nd.1 (List.mem_map.mpr ⟨(n, c), h, q⟩)
      rw [this]
      exact lookup_of_nodup nd.2 h

/-- entering a def with cells -/
theorem enterC {f : Addr} {oc : Value} {od : Option Addr} {osl : Array (Option Value)} {name qual : Str} {params : Arguments} {body : List Stmt} {scope : Scope} {dV kV doc pm cdv ct : Value} {an : Option Addr}
    {args : List Value} (binds : List (Str × Value)) (cl : Addr → List (Str × Addr)) (mc : Addr → List (Addr × MO)) (mL : Str → Option Value) {n : Nat} {Q : Value → Shared → Prop}
    (C : Cx prog w K mg mb h₀ mu fs h) (R : Rm A (n + 1)) (ho : K.lookup f = some ⟨oc, od, .func (fnOf name qual params body scope dV kV doc pm an cdv ct), osl⟩) (hcd : codeIn K cdv qual = true)
    (hbind : bindArgs (fnOf name qual params body scope dV kV doc pm an cdv ct) ⟨args, []⟩ = pure binds)
    (hkind : (binds.all fun x => decide (scope.names.lookup x.1 = some .local) || (decide (scope.names.lookup x.1 = some .cell) && ((cellsFrom 0 scope.names []).map (·.1)).contains x.1)) = true)
    (hnd : ((cellsFrom 0 scope.names []).map (·.1)).Nodup) (hcl : ∀ L, cellsFrom (L + 1) scope.names [] = cl L)
    (hmc : ∀ L, (cl L).map (fun p => (p.2, cellMO (bindC (fun y => scope.names.lookup y) binds (fun _ => none) p.1))) = mc L) (hmL : bindL (fun y => scope.names.lookup y) binds (fun _ => none) = mL)
    (k : ∀ A' L h₁ tk, Rm A' n → St prog w K mg mb h₀ L mL (mc L ++ mu) fs h₁ →
      wpAny (model prog w) A' (execs body (fenv scope L (cl L) qual f cdv)) (fun fl s' => Q (match fl with | .ret v => v | _ => .none) s') (fun _ _ => False) ⟨h₁, g, dr, tk, os⟩)
    (hco : scope.isCoroutine = false := by k_dflt rfl) (hgen : scope.isGenerator = false := by k_dflt rfl) (hk : scope.kind = .function := by k_dflt rfl) :
    wpAny (model prog w) A (call (.ref f) args) Q E ⟨h, g, dr, tk, os⟩ := by
  have G := C.gd.le C.keep
  have hnames : ∀ n, ((cellsFrom n scope.names []).map (·.1)) = ((cellsFrom 0 scope.names []).map (·.1)) := fun n => cellsFrom_names _ _ _ _ _ rfl
  have hlk : ∀ n, ∀ p ∈ cellsFrom n scope.names [], (cellsFrom n scope.names []).lookup p.1 = some p.2 := fun n p hp => lookup_of_nodup (by rw [hnames]; exact hnd) hp
  refine wpAny_call (codeAny_call_function (fd := fnOf name qual params body scope dV kV doc pm an cdv ct) (by have := R.dp; omega) (G.inK _ _ ho) rfl hco hgen rfl (codeRec_of G.inK hcd) (BindsTo.of_eq hbind _ _ _ _ ?_))
  refine wpAny_newFunctionEnv_cells hk (fun x hx => ?_) fun env he s' ic => ?_
  · have := List.all_eq_true.mp hkind x hx
    simp only [Bool.or_eq_true, Bool.and_eq_true, decide_eq_true_eq] at this
    rcases this with h1 | ⟨h1, h2⟩
    · exact .inl h1
    · refine .inr ⟨h1, ?_⟩
      have hm : x.1 ∈ (cellsFrom (h.objs.size + 1) scope.names []).map (·.1) := by rw [hnames]; simpa using h2
      obtain ⟨p, hp, e⟩ := List.mem_map.mp hm
      have := hlk _ p hp
      rw [e] at this
      show ((cellsFrom (h.objs.size + 1) scope.names []).lookup x.1).isSome = true
      rw [this]; rfl
  · obtain ⟨⟨⟨h₁, tk₁, rfl⟩, hns, hkeep, hfr⟩, hcell, hap, hab⟩ := ic
    replace hkeep : Le h h₁ := hkeep
    replace he : env = fenv scope h.objs.size (cellsFrom (h.objs.size + 1) scope.names []) qual f cdv := he
    subst he
    rw [hcl] at *
    have hlk' := hlk (h.objs.size + 1)
    rw [hcl] at hlk'
    refine ⟨G.nl.keeps hkeep, codeAny_func ?_⟩
    refine wpAny_mono (k _ h.objs.size h₁ _ (R.deeper _) ?_) (fun _ _ x => x) fun _ _ x => x.elim
    have e0 : ∀ a, h.objs.size ≤ a → h₀.get? a = none := fun a ha => by
      cases q : h₀.get? a with
      | none => rfl
      | some o => exact absurd (Heap.lt_size (C.keep _ _ q)) (Nat.not_lt.mpr ha)
    have hmem : ∀ p ∈ mc h.objs.size, ∃ x ∈ cl h.objs.size, p = (x.2, cellMO (bindC (fun y => scope.names.lookup y) binds (fun _ => none) x.1)) := fun p hp => by
      rw [← hmc] at hp
      obtain ⟨x, hx, rfl⟩ := List.mem_map.mp hp
      exact ⟨x, hx, rfl⟩
    have C1 := C.ext hkeep
    have lt : ∀ p ∈ mu, p.1 < h.objs.size := fun p hp => by obtain ⟨o, e⟩ := (C.mus p hp).1.ex; exact Heap.lt_size e
    refine ⟨⟨C1.gd, C1.keep, fun p hp => ?_, ?_, C1.tds⟩, ?_, e0 _ (Nat.le_refl _), fun p hp => ?_⟩
    · rcases List.mem_append.mp hp with hp | hp
      · obtain ⟨x, hx, rfl⟩ := hmem p hp
        refine ⟨cellMO_is (hcell x.1 x.2 (hlk' x hx)), e0 _ (Nat.le_of_lt (hab x.1 x.2 hx))⟩
      · exact C1.mus p hp
    · rw [List.map_append]
      refine List.nodup_append.mpr ⟨?_, C.nd, fun a ha b hb => ?_⟩
      · rw [← hmc, List.map_map]
        exact List.pairwise_map.mpr hap
      · obtain ⟨p, hp, rfl⟩ := List.mem_map.mp ha
        obtain ⟨p', hp', rfl⟩ := List.mem_map.mp hb
        obtain ⟨x, hx, rfl⟩ := hmem p hp
        have h1 : h.objs.size < x.2 := hab x.1 x.2 hx
        have h2 := lt p' hp'
        exact Nat.ne_of_gt (Nat.lt_trans h2 h1)
    · rw [← hmL]; exact hns
    · rcases List.mem_append.mp hp with hp | hp
      · obtain ⟨x, hx, rfl⟩ := hmem p hp
        exact Nat.ne_of_gt (hab x.1 x.2 hx)
      · exact Nat.ne_of_lt (lt p hp)

/-! ## names, constants -/
theorem r_loc {x : Str} {pos : Pos} {v : Value} {Q : Value → Shared → Prop} (S : St prog w K mg mb h₀ L m mu fs h) (hv : m x = some v) (k : Q v ⟨h, g, dr, tk, os⟩)
    (hL : env.locals = L := by k_dflt rfl) (hk : env.scope.kind = .function := by k_dflt rfl) (hl : env.kindOf x = some .local := by k_dflt rfl) (hd : (x == ("__debug__" : Str)) = false := by k_dflt decide) :
    wpAny (model prog w) A (eval (.Name x pos) env) Q E ⟨h, g, dr, tk, os⟩ := wpAny_Name (wpAny_loadName_local hk hl (hL ▸ S.ns) hv k) hd
theorem r_cell {x : Str} {pos : Pos} {c : Addr} {v : Value} {Q : Value → Shared → Prop} (hc : env.cells.lookup x = some c) (hm : (MO.cell v).Is prog w h c) (k : Q v ⟨h, g, dr, tk, os⟩)
    (hk : env.scope.kind = .function := by k_dflt rfl) (hl : env.kindOf x = some .cell := by k_dflt rfl) (hd : (x == ("__debug__" : Str)) = false := by k_dflt decide) :
    wpAny (model prog w) A (eval (.Name x pos) env) Q E ⟨h, g, dr, tk, os⟩ := wpAny_Name (wpAny_loadName_cell hk hl hc hm k) hd
theorem r_cellD {x : Str} {pos : Pos} {c : Addr} {d : PyData} {Q : Value → Shared → Prop} (S : St prog w K mg mb h₀ L m mu fs h) (hc : env.cells.lookup x = some c) (hm : (MO.cellD d).Is prog w h c) (k : ∀ v, St prog w K mg mb h₀ L m mu ((v, d) :: fs) h → Q v ⟨h, g, dr, tk, os⟩)
    (hk : env.scope.kind = .function := by k_dflt rfl) (hl : env.kindOf x = some .cell := by k_dflt rfl) (hd : (x == ("__debug__" : Str)) = false := by k_dflt decide) :
    wpAny (model prog w) A (eval (.Name x pos) env) Q E ⟨h, g, dr, tk, os⟩ := by
  obtain ⟨v, hv, T⟩ := hm
  exact r_cell hc hv (k v (S.fact T)) hk hl hd
theorem r_glob {x : Str} {pos : Pos} {v : Value} {Q : Value → Shared → Prop} (S : St prog w K mg mb h₀ L m mu fs h) (e : nsIn K mainGlobals x = some (some v)) (k : Q v ⟨h, g, dr, tk, os⟩)
    (hg : env.globals = mainGlobals := by k_dflt rfl) (hk : env.scope.kind = .function := by k_dflt rfl) (hl : env.kindOf x = some .globalImplicit := by k_dflt rfl) (hd : (x == ("__debug__" : Str)) = false := by k_dflt decide) :
    wpAny (model prog w) A (eval (.Name x pos) env) Q E ⟨h, g, dr, tk, os⟩ := Name_function_global hk hl (loadGlobal_global (hg ▸ S.gdh.g) (mg_of S.gdh.inK S.gdh.g e) k) hd
theorem r_bi {x : Str} {pos : Pos} {v : Value} {Q : Value → Shared → Prop} (S : St prog w K mg mb h₀ L m mu fs h) (e : nsIn K mainGlobals x = some none) (hv : bootBuiltins x = some v) (k : Q v ⟨h, g, dr, tk, os⟩)
    (hn : x ≠ "__name__" := by k_dflt decide) (hg : env.globals = mainGlobals := by k_dflt rfl) (hb : env.builtins = builtinsNs := by k_dflt rfl) (hk : env.scope.kind = .function := by k_dflt rfl) (hl : env.kindOf x = some .globalImplicit := by k_dflt rfl) (hd : (x == ("__debug__" : Str)) = false := by k_dflt decide) :
    wpAny (model prog w) A (eval (.Name x pos) env) Q E ⟨h, g, dr, tk, os⟩ :=
  Name_function_global hk hl (loadGlobal_builtin (hg ▸ S.gdh.g) (mg_none_of S.gdh.inK S.gdh.g e) (hb ▸ S.gdh.b) ((S.gdh.bi x hn).trans hv) k) hd
theorem r_store {x : Str} {v : Value} {Q : Unit → Shared → Prop} (S : St prog w K mg mb h₀ L m mu fs h) (k : ∀ h' tk', St prog w K mg mb h₀ L (fun y => if y = x then some v else m y) mu fs h' → Q () ⟨h', g, dr, tk', os⟩)
    (hL : env.locals = L := by k_dflt rfl) (hk : env.scope.kind = .function := by k_dflt rfl) (hl : env.kindOf x = some .local := by k_dflt rfl) :
    wpAny (model prog w) A (storeName env x v) Q E ⟨h, g, dr, tk, os⟩ := by
  subst hL
  exact wpAny_storeName_local hl S.ns (fun h' hn hs => k h' _ (S.loc hn hs.extBut)) (by rw [hk]; rfl)
theorem r_storeC {x : Str} {c : Addr} {mo₀ : MO} {v : Value} {Q : Unit → Shared → Prop} (S : St prog w K mg mb h₀ L m mu fs h) (hc : env.cells.lookup x = some c) (u : Up c mo₀ (.cell v) mu mu') (hu : mo₀ = .cellU ∨ (∃ v₀, mo₀ = .cell v₀) ∨ ∃ d, mo₀ = .cellD d)
    (k : ∀ h' tk', St prog w K mg mb h₀ L m mu' fs h' → Q () ⟨h', g, dr, tk', os⟩)
    (hk : env.scope.kind = .function := by k_dflt rfl) (hl : env.kindOf x = some .cell := by k_dflt rfl) :
    wpAny (model prog w) A (storeName env x v) Q E ⟨h, g, dr, tk, os⟩ :=
by
  have x := S.mo u.mem
  have : ∃ y, h.IsCell c y := by
    rcases hu with rfl | ⟨v₀, rfl⟩ | ⟨d, rfl⟩
    · exact x
    · exact ⟨_, x⟩
    · obtain ⟨v, hv, _⟩ := x; exact ⟨_, hv⟩
  obtain ⟨y, hy⟩ := this
  exact wpAny_storeName_cell hk hl hc hy (fun h' hn hs => k h' _ (S.upd u hn hs.extBut))
/-- a cell bound to data -/
theorem r_storeCD {x : Str} {c : Addr} {mo₀ : MO} {v : Value} {d : PyData} {Q : Unit → Shared → Prop} (S : St prog w K mg mb h₀ L m mu fs h) (T : TD h v d) (hc : env.cells.lookup x = some c) (u : Up c mo₀ (.cellD d) mu mu') (hu : mo₀ = .cellU ∨ (∃ v₀, mo₀ = .cell v₀) ∨ ∃ d, mo₀ = .cellD d)
    (k : ∀ h' tk', St prog w K mg mb h₀ L m mu' fs h' → Q () ⟨h', g, dr, tk', os⟩)
    (hk : env.scope.kind = .function := by k_dflt rfl) (hl : env.kindOf x = some .cell := by k_dflt rfl) :
    wpAny (model prog w) A (storeName env x v) Q E ⟨h, g, dr, tk, os⟩ := by
  have x := S.mo u.mem
  have : ∃ y, h.IsCell c y := by
    rcases hu with rfl | ⟨v₀, rfl⟩ | ⟨d, rfl⟩
    · exact x
    · exact ⟨_, x⟩
    · obtain ⟨v, hv, _⟩ := x; exact ⟨_, hv⟩
  obtain ⟨y, hy⟩ := this
  refine wpAny_storeName_cell hk hl hc hy (fun h' hn hs => k h' _ (S.upd u ⟨v, hn, T.mono (S.tle fun b o _ hb e => hs.extBut b o (fun q => hb (q ▸ List.mem_map_of_mem u.mem)) e)⟩ hs.extBut))

/-! ## tuples -/
theorem tdNew {vs : List Value} {ds : List PyData} (t : TDs h vs ds) : TD (h.push { cls := .type "tuple", data := .seq vs.toArray }) (.ref h.objs.size) (.tuple ds) :=
  .tup (IsT.new h vs.toArray) (by simpa using t.mono (Le.push h _).tle)

theorem r_newTuple {vs : List Value} {ds : List PyData} {Q : Value → Shared → Prop} (S : St prog w K mg mb h₀ L m mu fs h) (t : TDs h vs ds)
    (k : ∀ a h' tk', Le h h' → St prog w K mg mb h₀ L m mu ((.ref a, .tuple ds) :: fs) h' → Q (.ref a) ⟨h', g, dr, tk', os⟩) (hsz : vs.length ≤ sizeLine) :
    wpAny (model prog w) A (newTuple vs) Q E ⟨h, g, dr, tk, os⟩ :=
  wpAny_newObj_type (k _ _ _ (Le.push h _) ((S.ext (Le.push h _)).fact (tdNew t))) (by show vs.toArray.size ≤ sizeLine; simpa using hsz)

theorem TD.isTup {v : Value} {ds : List PyData} (t : TD h v (.tuple ds)) : ∃ a vs, v = .ref a ∧ IsTup h a vs.toArray ∧ TDs h vs ds := by
  obtain ⟨a, vs, n, rfl, hi, r⟩ := t.tup_inv
  exact ⟨a, vs.toList, rfl, ⟨_, hi, rfl, n, by simp⟩, r⟩

theorem seqIndex_nat {i : Int} {n : Nat} (h0 : 0 ≤ i) (h1 : i.toNat < n) : seqIndex? i n = some i.toNat := by
  unfold seqIndex?
  have a : ¬ i < 0 := by omega
  have b : ¬ (i ≥ (n : Int)) := by omega
  simp only [a, if_false]
  first
    | (rw [if_neg b])
    | (split <;> simp_all <;> omega)

theorem r_item {value slice : Expr} {a : Addr} {ds : List PyData} {i : Int} {u : Tok} {d : PyData} {Q : Value → Shared → Prop} (t : TD h (.ref a) (.tuple ds)) (h0 : 0 ≤ i) (h1 : i < 2 ^ 63) (e : ds[i.toNat]? = some d)
    (k : ∀ v, TD h v d → Q v ⟨h, g, dr, tk, os⟩)
    (hs : subscripted slice false (.ref a) (.int i u) = operate [.ref a, .int i u] (getItem (.ref a) (.int i u)) := by with_unfolding_all rfl) :
    wpAny (model prog w) A (subscriptTail value slice (.ref a) (.int i u)) Q E ⟨h, g, dr, tk, os⟩ := by
  obtain ⟨a', vs, ha, hi, r⟩ := t.isTup
  cases ha
  obtain ⟨v, hv, tv⟩ := r.get e
  have hlt : i.toNat < vs.length := (List.getElem?_eq_some_iff.mp hv).1
  exact item_tupleT (l := vs) hi (by omega) h1 (seqIndex_nat h0 hlt) hv (k v tv) hs

theorem r_item_i {value slice : Expr} {a : Addr} {ds : List PyData} {i : Int} {u : Tok} {j : Int} {Q : Value → Shared → Prop} (t : TD h (.ref a) (.tuple ds)) (h0 : 0 ≤ i) (h1 : i < 2 ^ 63) (e : ds[i.toNat]? = some (.int j))
    (k : ∀ t', Q (.int j t') ⟨h, g, dr, tk, os⟩)
    (hs : subscripted slice false (.ref a) (.int i u) = operate [.ref a, .int i u] (getItem (.ref a) (.int i u)) := by with_unfolding_all rfl) :
    wpAny (model prog w) A (subscriptTail value slice (.ref a) (.int i u)) Q E ⟨h, g, dr, tk, os⟩ :=
  r_item t h0 h1 e (fun v tv => by obtain ⟨t', rfl⟩ := tv.int_inv; exact k t') hs
theorem r_item_s {value slice : Expr} {a : Addr} {ds : List PyData} {i : Int} {u : Tok} {x : Str} {Q : Value → Shared → Prop} (t : TD h (.ref a) (.tuple ds)) (h0 : 0 ≤ i) (h1 : i < 2 ^ 63) (e : ds[i.toNat]? = some (.str x))
    (k : ∀ t', Q (.str x t') ⟨h, g, dr, tk, os⟩)
    (hs : subscripted slice false (.ref a) (.int i u) = operate [.ref a, .int i u] (getItem (.ref a) (.int i u)) := by with_unfolding_all rfl) :
    wpAny (model prog w) A (subscriptTail value slice (.ref a) (.int i u)) Q E ⟨h, g, dr, tk, os⟩ :=
  r_item t h0 h1 e (fun v tv => by obtain ⟨t', rfl⟩ := tv.str_inv; exact k t') hs
theorem r_item_b {value slice : Expr} {a : Addr} {ds : List PyData} {i : Int} {u : Tok} {x : Bool} {Q : Value → Shared → Prop} (t : TD h (.ref a) (.tuple ds)) (h0 : 0 ≤ i) (h1 : i < 2 ^ 63) (e : ds[i.toNat]? = some (.bool x))
    (k : Q (.bool x) ⟨h, g, dr, tk, os⟩)
    (hs : subscripted slice false (.ref a) (.int i u) = operate [.ref a, .int i u] (getItem (.ref a) (.int i u)) := by with_unfolding_all rfl) :
    wpAny (model prog w) A (subscriptTail value slice (.ref a) (.int i u)) Q E ⟨h, g, dr, tk, os⟩ :=
  r_item t h0 h1 e (fun v tv => by obtain rfl := tv.bool_inv; exact k) hs
theorem r_item_t {value slice : Expr} {a : Addr} {ds es : List PyData} {i : Int} {u : Tok} {Q : Value → Shared → Prop} (S : St prog w K mg mb h₀ L m mu fs h) (t : TD h (.ref a) (.tuple ds)) (h0 : 0 ≤ i) (h1 : i < 2 ^ 63) (e : ds[i.toNat]? = some (.tuple es))
    (k : ∀ b, St prog w K mg mb h₀ L m mu ((.ref b, .tuple es) :: fs) h → Q (.ref b) ⟨h, g, dr, tk, os⟩)
    (hs : subscripted slice false (.ref a) (.int i u) = operate [.ref a, .int i u] (getItem (.ref a) (.int i u)) := by with_unfolding_all rfl) :
    wpAny (model prog w) A (subscriptTail value slice (.ref a) (.int i u)) Q E ⟨h, g, dr, tk, os⟩ :=
  r_item t h0 h1 e (fun v tv => by obtain ⟨b, _, _, rfl, _, _⟩ := tv.tup_inv; exact k b (S.fact tv)) hs
theorem r_itemX {value slice : Expr} {a : Addr} {ds : List PyData} {d : PyData} {i : Int} {u : Tok} {Q : Value → Shared → Prop} (S : St prog w K mg mb h₀ L m mu fs h) (t : TD h (.ref a) (.tuple ds)) (h0 : 0 ≤ i) (h1 : i < 2 ^ 63) (e : ds[i.toNat]? = some d)
    (k : ∀ v, St prog w K mg mb h₀ L m mu ((v, d) :: fs) h → Q v ⟨h, g, dr, tk, os⟩)
    (hs : subscripted slice false (.ref a) (.int i u) = operate [.ref a, .int i u] (getItem (.ref a) (.int i u)) := by with_unfolding_all rfl) :
    wpAny (model prog w) A (subscriptTail value slice (.ref a) (.int i u)) Q E ⟨h, g, dr, tk, os⟩ :=
  r_item t h0 h1 e (fun v tv => k v (S.fact tv)) hs
end
section
variable {prog : Program} {w : World} {K : Frag} {mg mb : Str → Option Value} {h₀ h h' : Heap} {L : Addr} {m m' : Str → Option Value} {mu mu' : List (Addr × MO)} {fs fs' : List (Value × PyData)}
  {A : Around} {E : Value → Shared → Prop} {g : Array GenState} {dr : Drawn} {os : OsState} {tk : Nat} {env : Env} {s : Shared}

theorem TD.isT {v : Value} {ds : List PyData} (t : TD h v (.tuple ds)) : ∃ a vs n, v = .ref a ∧ IsT h a (List.toArray vs) n ∧ TDs h vs ds := by
  obtain ⟨a, vs, n, rfl, hi, r⟩ := t.tup_inv
  exact ⟨a, vs.toList, n, rfl, by simpa using hi, r⟩
theorem isTup_of {a : Addr} {vs : Array Value} {n : Nat} (x : IsT h a vs n) : IsTup h a vs := ⟨_, x, rfl, n, rfl⟩

/-! ## cuts of a tuple -/
theorem adjust_upto (b n : Nat) (hb : b ≤ n) : Builtin.Slice.sliceAdjust none (some (b : Int)) 1 (n : Int) = (0, (b : Int)) := by
  unfold Builtin.Slice.sliceAdjust
  have h1 : ¬ ((1 : Int) < 0) := by omega
  have h2 : ¬ ((b : Int) < 0) := by omega
  simp only [h1, h2, if_false]
  congr 1
  omega
theorem places_upto (b : Nat) : Builtin.Slice.slicePlaces 0 (b : Int) 1 = b := by
  unfold Builtin.Slice.slicePlaces
  have h1 : (1 : Int) > 0 := by omega
  simp only [h1, if_true, Int.ediv_one]
  split <;> omega
theorem sliceApplied_upto {sl : Addr} {b n : Nat} {u : Tok} {Q : Int × Int × Nat → Shared → Prop} (hs : s.heap.IsSliceOf sl .none (.int b u) .none) (hb : b ≤ n) (k : Q ((0 : Int), 1, b) s) :
    wpAny (model prog w) A (Builtin.Slice.sliceApplied (.ref sl) (pure (n : Int))) Q E s := by
  obtain ⟨os, hos, hcs, hds⟩ := id hs
  unfold Builtin.Slice.sliceApplied Builtin.Slice.sliceFields
  refine wpAny_bind (wpAny_bind (wpAny_field hos hds (x := .none) rfl (wpAny_bind (wpAny_field hos hds (x := .int b u) rfl (wpAny_bind (wpAny_field hos hds (x := .none) rfl (wpAny_pure ?_)))))))
  refine wpAny_bind (slicePart_none ?_)
  show wpAny _ _ (if ((1 : Int) == 0) = true then _ else _) _ _ s
  rw [if_neg (by decide)]
  refine wpAny_bind (slicePart_none (wpAny_bind (slicePart_int (wpAny_bind (wpAny_pure ?_)))))
  show wpAny _ _ (match Builtin.Slice.sliceAdjust none (some (b : Int)) 1 (n : Int) with | (lo, hi) => pure (lo, (1 : Int), Builtin.Slice.slicePlaces lo hi 1)) _ _ s
  rw [adjust_upto b n hb]
  show wpAny _ _ (pure ((0 : Int), (1 : Int), Builtin.Slice.slicePlaces (0 : Int) (b : Int) 1)) _ _ s
  rw [places_upto b]
  exact wpAny_pure k
theorem pick_upto (xs : Array Value) (b : Nat) : ((List.range b).filterMap fun (k : Nat) => xs[((0 : Int) + (k : Int) * 1).toNat]?).toArray = (xs.toList.take b).toArray := by
  have e : (fun (k : Nat) => xs[((0 : Int) + (k : Int) * 1).toNat]?) = fun k => xs[0 + k]? := by
    funext k
    have : ((0 : Int) + (k : Int) * 1).toNat = 0 + k := by omega
    rw [this]
  rw [e]
  have := pick_run xs 0 b
  rw [List.filterMap_map] at this
  have e2 : ((fun x => xs[x]?) ∘ fun x => 0 + x) = fun k => xs[0 + k]? := rfl
  rw [e2] at this
  rw [this, List.drop_zero]

theorem wpAny_tupleIsExact {t : Addr} {items : Array Value} {Q : Bool → Shared → Prop} (ht : IsTup s.heap t items) (k : Q true s) : wpAny (model prog w) A (Builtin.Tuple.tupleIsExact (.ref t)) Q E s := by
  unfold Builtin.Tuple.tupleIsExact
  refine wpAny_bind (wpAny_typeOf ht.typeIs (wpAny_pure ?_))
  exact k

/-- a cut of a tuple by the parts that the slice tells: the tuple itself or a new one -/
theorem getItem_tuple_cut {t sl : Addr} {items : Array Value} {lo : Int} {n : Nat} {xs : List Value} {Q : Value → Shared → Prop} (ht : IsTup s.heap t items) (hT : s.TypeIs (.ref sl) "slice")
    (ha : ∀ (Q' : Int × Int × Nat → Shared → Prop) (E' : Value → Shared → Prop), Q' (lo, 1, n) s → wpAny (model prog w) A.in1 (Builtin.Slice.sliceApplied (.ref sl) (pure (items.size : Int))) Q' E' s)
    (hp : ((List.range n).filterMap fun (k : Nat) => items[(lo + (k : Int) * 1).toNat]?).toArray = xs.toArray) (hw : lo = 0 → n = items.size → xs = items.toList)
    (h1 : xs = items.toList → Q (.ref t) s)
    (h2 : Q (.ref s.heap.objs.size) { s with heap := s.heap.push { cls := .type "tuple", data := .seq xs.toArray } })
    (hsz : xs.length ≤ sizeLine) : wpAny (model prog w) A (getItem (.ref t) (.ref sl)) Q E s := by
  have hok : sizeOk (.seq xs.toArray) := by show xs.toArray.size ≤ sizeLine; simpa using hsz
  unfold getItem
  try with_reducible refine wpAny_holding ?_
  first | refine wpAny_bind (wpAny_pure ?_) | skip
  refine wpAny_bind (wpAny_sequenceKey ht.typeIs (by decide) ?_)
  refine wpAny_bind (wpAny_callSpecial?_slot (name := Str.ofString "__getitem__") ht.typeIs PyProof.Rows.slot_tuple_getitem
    (wpAny_call_entry PyProof.Rows.slot_tuple_getitem ht.typeIs PyProof.Rows.entry_tuple_getitem ?_ (PyProof.Rows.args_tuple_getitem _ _)))
  show wpAny _ _ (Builtin.Tuple.tupleItemsOf (.ref t) >>= _) _ _ s
  refine wpAny_bind (tupleItemsOf_ ht ?_)
  refine wpAny_bind (wpAny_typeOf hT ?_)
  rw [if_pos (by decide)]
  refine wpAny_bind (ha _ _ ?_)
  show wpAny _ _ (if (lo == 0 && (1 : Int) == 1 && n == items.size) = true then _ else _) _ _ s
  by_cases hc : (lo == 0 && (1 : Int) == 1 && n == items.size) = true
  · rw [if_pos hc]
    have : lo = 0 ∧ n = items.size := by simpa using hc
    refine wpAny_bind (wpAny_tupleIsExact ht ?_)
    simp only [if_true]
    first
      | exact wpAny_bind (wpAny_rule (wpAny_pure ⟨_, rfl, wpAny_pure (h1 (hw this.1 this.2))⟩))
      | exact wpAny_bind (wpAny_rule (wpAny_bind (wpAny_pure (wpAny_pure ⟨_, rfl, wpAny_pure (h1 (hw this.1 this.2))⟩))))
  · rw [if_neg hc, hp]
    first
      | exact wpAny_bind (m := Builtin.Tuple.tupleExact _) (wpAny_newObj_type (wpAny_pure ⟨_, rfl, wpAny_pure h2⟩) hok)
      | exact wpAny_bind (m := Builtin.Tuple.tupleExact _) (wpAny_newObj_type (wpAny_bind (wpAny_pure (wpAny_pure ⟨_, rfl, wpAny_pure h2⟩))) hok)
      | exact wpAny_bind (wpAny_bind (m := Builtin.Tuple.tupleExact _) (wpAny_newObj_type (wpAny_pure (wpAny_pure ⟨_, rfl, wpAny_pure h2⟩)) hok))
      | exact wpAny_bind (wpAny_bind (m := Builtin.Tuple.tupleExact _) (wpAny_newObj_type (wpAny_pure ⟨_, rfl, wpAny_pure h2⟩) hok))
end

section
variable {prog : Program} {w : World} {K : Frag} {mg mb : Str → Option Value} {h₀ h h' : Heap} {L : Addr} {m m' : Str → Option Value} {mu mu' : List (Addr × MO)} {fs fs' : List (Value × PyData)}
  {A : Around} {E : Value → Shared → Prop} {g : Array GenState} {dr : Drawn} {os : OsState} {tk : Nat} {env : Env}

theorem r_slFrom {value slice : Expr} {a : Addr} {ds : List PyData} {i : Int} {u : Tok} {Q : Value → Shared → Prop} (S : St prog w K mg mb h₀ L m mu fs h) (t : TD h (.ref a) (.tuple ds))
    (h0 : 0 ≤ i) (hi : i.toNat ≤ ds.length) (k : ∀ b h' tk', Le h h' → St prog w K mg mb h₀ L m mu ((.ref b, .tuple (ds.drop i.toNat)) :: fs) h' → Q (.ref b) ⟨h', g, dr, tk', os⟩)
    (hsz : ds.length ≤ sizeLine)
    (hs : subscripted slice false (.ref a) (.ref h.objs.size) = operate [.ref h.objs.size, .ref a] (getItem (.ref a) (.ref h.objs.size)) := by with_unfolding_all rfl)
    (hg : ∀ r, letTemporaryGo value (.ref a) r = pure () := by intro _; with_unfolding_all rfl) :
    wpAny (model prog w) A (subscriptTail value slice (.ref a) (.ref h.objs.size)) Q E ⟨h.push { cls := .type "slice", data := .fields #[.int i u, .none, .none] }, g, dr, tk, os⟩ := by
  obtain ⟨a', vs, nn, ha, hit, r⟩ := t.isT
  cases ha
  have ht := isTup_of hit
  have hp := Le.push h { cls := .type "slice", data := .fields #[.int i u, .none, .none] }
  have hl := r.length
  obtain ⟨n, rfl⟩ := Int.eq_ofNat_of_zero_le h0
  have ht' : IsTup (h.push { cls := .type "slice", data := .fields #[.int (n : Int) u, .none, .none] }) a vs.toArray := ht.keeps hp
  have hn : n ≤ vs.length := by rw [hl]; simpa using hi
  have hsl : (h.push { cls := .type "slice", data := .fields #[.int (n : Int) u, .none, .none] }).IsSliceOf h.objs.size (.int (n : Int) u) .none .none := Heap.IsSliceOf.new ..
  refine subscriptTail_ops (s := ⟨h.push { cls := .type "slice", data := .fields #[.int (n : Int) u, .none, .none] }, g, dr, tk, os⟩) ht'.typeIs PyProof.Rows.slot_tuple_getitem.lookup
    (getItem_tuple_cut (xs := vs.drop n) (lo := (n : Int)) (n := vs.toArray.size - n) ht' (by obtain ⟨o, e, c, _⟩ := hsl; exact ⟨o, e, c⟩) (fun Q' E' q => sliceApplied_from hsl (by simpa using hn) q) ?_ ?_ (fun e => ?_) ?_ ?_) hs hg
  · rw [pick_from _ _ (by simpa using hn)]
  · intro e _; have : n = 0 := by omega
    subst this; simp
  · refine k a _ _ hp ((S.ext hp).fact ?_)
    have q := r.drop n
    have e' : vs.drop n = vs := by simpa using e
    rw [e'] at q
    exact (TD.tup hit (by simpa using q)).mono hp.tle
  · have S2 := (S.ext hp).ext (Le.push _ { cls := .type "tuple", data := .seq (vs.drop n).toArray })
    exact k _ _ _ (hp.trans (Le.push _ _)) (S2.fact (tdNew ((r.drop n).mono hp.tle)))
  · rw [List.length_drop]; omega

theorem r_slUpto {value slice : Expr} {a : Addr} {ds : List PyData} {i : Int} {u : Tok} {Q : Value → Shared → Prop} (S : St prog w K mg mb h₀ L m mu fs h) (t : TD h (.ref a) (.tuple ds))
    (h0 : 0 ≤ i) (hi : i.toNat ≤ ds.length) (k : ∀ b h' tk', Le h h' → St prog w K mg mb h₀ L m mu ((.ref b, .tuple (ds.take i.toNat)) :: fs) h' → Q (.ref b) ⟨h', g, dr, tk', os⟩)
    (hsz : ds.length ≤ sizeLine)
    (hs : subscripted slice false (.ref a) (.ref h.objs.size) = operate [.ref h.objs.size, .ref a] (getItem (.ref a) (.ref h.objs.size)) := by with_unfolding_all rfl)
    (hg : ∀ r, letTemporaryGo value (.ref a) r = pure () := by intro _; with_unfolding_all rfl) :
    wpAny (model prog w) A (subscriptTail value slice (.ref a) (.ref h.objs.size)) Q E ⟨h.push { cls := .type "slice", data := .fields #[.none, .int i u, .none] }, g, dr, tk, os⟩ := by
  obtain ⟨a', vs, nn, ha, hit, r⟩ := t.isT
  cases ha
  have ht := isTup_of hit
  have hp := Le.push h { cls := .type "slice", data := .fields #[.none, .int i u, .none] }
  have hl := r.length
  obtain ⟨n, rfl⟩ := Int.eq_ofNat_of_zero_le h0
  have ht' : IsTup (h.push { cls := .type "slice", data := .fields #[.none, .int (n : Int) u, .none] }) a vs.toArray := ht.keeps hp
  have hn : n ≤ vs.length := by rw [hl]; simpa using hi
  have hsl : (h.push { cls := .type "slice", data := .fields #[.none, .int (n : Int) u, .none] }).IsSliceOf h.objs.size .none (.int (n : Int) u) .none := Heap.IsSliceOf.new ..
  refine subscriptTail_ops (s := ⟨h.push { cls := .type "slice", data := .fields #[.none, .int (n : Int) u, .none] }, g, dr, tk, os⟩) ht'.typeIs PyProof.Rows.slot_tuple_getitem.lookup
    (getItem_tuple_cut (xs := vs.take n) (lo := 0) (n := n) ht' (by obtain ⟨o, e, c, _⟩ := hsl; exact ⟨o, e, c⟩) (fun Q' E' q => sliceApplied_upto hsl (by simpa using hn) q) ?_ ?_ (fun e => ?_) ?_ ?_) hs hg
  · rw [pick_upto]
  · intro _ e; rw [e]; simp
  · refine k a _ _ hp ((S.ext hp).fact ?_)
    have q := r.take n
    have e' : vs.take n = vs := by simpa using e
    rw [e'] at q
    exact (TD.tup hit (by simpa using q)).mono hp.tle
  · have S2 := (S.ext hp).ext (Le.push _ { cls := .type "tuple", data := .seq (vs.take n).toArray })
    exact k _ _ _ (hp.trans (Le.push _ _)) (S2.fact (tdNew ((r.take n).mono hp.tle)))
  · rw [List.length_take]; omega

/-! ## two tuples in one -/
theorem r_addT {a b : Addr} {ds es : List PyData} {Q : Value → Shared → Prop} (S : St prog w K mg mb h₀ L m mu fs h) (t : TD h (.ref a) (.tuple ds)) (u : TD h (.ref b) (.tuple es))
    (k : ∀ c h' tk', Le h h' → St prog w K mg mb h₀ L m mu ((.ref c, .tuple (ds ++ es)) :: fs) h' → Q (.ref c) ⟨h', g, dr, tk', os⟩) (hsz : ds.length + es.length ≤ sizeLine) :
    wpAny (model prog w) A (binaryOp .Add (.ref a) (.ref b)) Q E ⟨h, g, dr, tk, os⟩ := by
  obtain ⟨a', vs, n, ha, ht, r⟩ := t.tup_inv
  cases ha
  obtain ⟨b', us, n', hb, hu, r'⟩ := u.tup_inv
  cases hb
  have l1 := r.length
  have l2 := r'.length
  rw [Array.length_toList] at l1 l2
  by_cases h1 : vs.isEmpty = true
  · have e : ds = [] := List.length_eq_zero_iff.mp (by rw [← l1]; simpa using h1)
    subst e
    exact concat_meets ⟨_, ht, rfl⟩ ⟨_, hu, rfl⟩ noFill_tuple_add seq_tuple_add F.slot_tuple_add F.entry_tuple_add (F.args_tuple_add_2 _ _) (AutoSeq1.tuple___add___tuple_tuple_0 a vs n b us n' h1)
      ⟨ht, hu, k b h _ (Le.refl h) (S.fact (by simpa using u))⟩
  · by_cases h2 : us.isEmpty = true
    · have e : es = [] := List.length_eq_zero_iff.mp (by rw [← l2]; simpa using h2)
      subst e
      exact concat_meets ⟨_, ht, rfl⟩ ⟨_, hu, rfl⟩ noFill_tuple_add seq_tuple_add F.slot_tuple_add F.entry_tuple_add (F.args_tuple_add_2 _ _) (AutoSeq1.tuple___add___tuple_tuple_1 a vs n b us n' h1 h2)
        ⟨ht, hu, k a h _ (Le.refl h) (S.fact (by simpa using t))⟩
    · refine P.add_tuple ht hu h1 h2 ?_ (by omega)
      refine k _ _ _ (Le.push h _) ((S.ext (Le.push h _)).fact (.tup (IsT.new h _) ?_))
      rw [Array.toList_append]
      exact (r.append r').mono (Le.push h _).tle
end
section
variable {prog : Program} {w : World} {K : Frag} {mg mb : Str → Option Value} {h₀ h h' : Heap} {L : Addr} {m m' : Str → Option Value} {mu mu' : List (Addr × MO)} {fs fs' : List (Value × PyData)}
  {A : Around} {E : Value → Shared → Prop} {g : Array GenState} {dr : Drawn} {os : OsState} {tk : Nat} {env : Env}

/-! ## constants, arithmetic -/
theorem r_cstr {x : Str} {k : Nat} {pos : Pos} {Q : Value → Shared → Prop} (q : ∀ t t', Q (.str x t) ⟨h, g, dr, t', os⟩) : wpAny (model prog w) A (eval (.Constant (.str x) k pos) env) Q E ⟨h, g, dr, tk, os⟩ := Calls.Constant_str (q _ _)
section
variable {a b : Int} {t u : Tok} {Q : Value → Shared → Prop}
end

/-! ## lengths, kinds -/
theorem r_lenT {a : Addr} {ds : List PyData} {Q : Value → Shared → Prop} (t : TD h (.ref a) (.tuple ds)) (hsz : ds.length < 2 ^ 40) (q : ∀ t' tk', Q (.int ds.length t') ⟨h, g, dr, tk', os⟩) :
    wpAny (model prog w) A (call (.builtin "len") [.ref a]) Q E ⟨h, g, dr, tk, os⟩ := by
  obtain ⟨a', vs, n, ha, ht, r⟩ := t.isT
  cases ha
  have l := r.length
  refine P.len_tuple ht (by have : vs.toArray.size = ds.length := by simpa using l
                            omega) ?_
  have e : ((vs.toArray.size : Nat) : Int) = (ds.length : Int) := by rw [List.size_toArray, l]
  rw [e]
  exact q _ _
theorem r_isiT {a : Addr} {ds : List PyData} {Q : Value → Shared → Prop} (t : TD h (.ref a) (.tuple ds)) (q : Q (.bool true) ⟨h, g, dr, tk, os⟩) :
    wpAny (model prog w) A (call (.builtin "isinstance") [.ref a, .type "tuple"]) Q E ⟨h, g, dr, tk, os⟩ := by
  obtain ⟨a', vs, n, ha, ht, r⟩ := t.isT
  cases ha
  exact IsiPair.tuple_tuple ht rfl q
theorem r_isiS {x : Str} {t : Tok} {Q : Value → Shared → Prop} (q : Q (.bool true) ⟨h, g, dr, tk, os⟩) :
    wpAny (model prog w) A (call (.builtin "isinstance") [.str x t, .type "str"]) Q E ⟨h, g, dr, tk, os⟩ := IsiPair.str_str q

/-! ## data compared -/
theorem r_eqD {v u : Value} {d e : PyData} {n : Nat} {Q : Value → Shared → Prop} (R : Rm A n) (t : TD h v d) (t' : TD h u e) (hd : SeqAt.shaped d = true) (he : SeqAt.shaped e = true) (q : Q (.bool (PyData.eqv d e)) ⟨h, g, dr, tk, os⟩) :
    wpAny (model prog w) A (compareOp .Eq v u) Q E ⟨h, g, dr, tk, os⟩ := SeqAt.compareEq_shaped t.reads t'.reads hd he (by have := R.un; omega) q
theorem r_neD {v u : Value} {d e : PyData} {n : Nat} {Q : Value → Shared → Prop} (R : Rm A n) (t : TD h v d) (t' : TD h u e) (hd : SeqAt.shaped d = true) (he : SeqAt.shaped e = true) (q : Q (.bool (!PyData.eqv d e)) ⟨h, g, dr, tk, os⟩) :
    wpAny (model prog w) A (compareOp .NotEq v u) Q E ⟨h, g, dr, tk, os⟩ := SeqAt.compareNe_shaped t.reads t'.reads hd he (by have := R.un; omega) q
theorem eqv_self {d : PyData} (hd : SeqAt.shaped d = true) : PyData.eqv d d = true := SeqAt.eqv_refl d (SeqAt.canLay_of_shaped hd)
theorem r_neSame {v u : Value} {d : PyData} {n : Nat} {Q : Value → Shared → Prop} (R : Rm A n) (t : TD h v d) (t' : TD h u d) (hd : SeqAt.shaped d = true) (q : Q (.bool false) ⟨h, g, dr, tk, os⟩) :
    wpAny (model prog w) A (compareOp .NotEq v u) Q E ⟨h, g, dr, tk, os⟩ := r_neD R t t' hd hd (by rw [eqv_self hd]; exact q)
theorem r_eqSame {v u : Value} {d : PyData} {n : Nat} {Q : Value → Shared → Prop} (R : Rm A n) (t : TD h v d) (t' : TD h u d) (hd : SeqAt.shaped d = true) (q : Q (.bool true) ⟨h, g, dr, tk, os⟩) :
    wpAny (model prog w) A (compareOp .Eq v u) Q E ⟨h, g, dr, tk, os⟩ := r_eqD R t t' hd hd (by rw [eqv_self hd]; exact q)

/-- two lists of data, compared -/
theorem MO.ldReads {a : Addr} {ds : List PyData} (x : (MO.ld ds).Is prog w h a) : Reads h (.ref a) (.list ds) [a] := by
  obtain ⟨vs, n, e, r⟩ := x
  exact .list (as := []) e rfl rfl (by simpa using r.reads)
theorem r_neL {a b : Addr} {ds es : List PyData} {n : Nat} {Q : Value → Shared → Prop} (R : Rm A n) (t : (MO.ld ds).Is prog w h a) (t' : (MO.ld es).Is prog w h b) (hd : SeqAt.shaped (.list ds) = true) (he : SeqAt.shaped (.list es) = true)
    (q : Q (.bool (!PyData.eqv (.list ds) (.list es))) ⟨h, g, dr, tk, os⟩) : wpAny (model prog w) A (compareOp .NotEq (.ref a) (.ref b)) Q E ⟨h, g, dr, tk, os⟩ :=
  SeqAt.compareNe_shaped (MO.ldReads t) (MO.ldReads t') hd he (by have := R.un; omega) q
theorem r_eqL {a b : Addr} {ds es : List PyData} {n : Nat} {Q : Value → Shared → Prop} (R : Rm A n) (t : (MO.ld ds).Is prog w h a) (t' : (MO.ld es).Is prog w h b) (hd : SeqAt.shaped (.list ds) = true) (he : SeqAt.shaped (.list es) = true)
    (q : Q (.bool (PyData.eqv (.list ds) (.list es))) ⟨h, g, dr, tk, os⟩) : wpAny (model prog w) A (compareOp .Eq (.ref a) (.ref b)) Q E ⟨h, g, dr, tk, os⟩ :=
  SeqAt.compareEq_shaped (MO.ldReads t) (MO.ldReads t') hd he (by have := R.un; omega) q

/-- a text in a tuple of two texts -/
theorem r_inT2 {x y z : Str} {t : Tok} {a : Addr} {Q : Value → Shared → Prop} (T : TD h (.ref a) (.tuple [.str y, .str z])) (q : Q (.bool (y == x || z == x)) ⟨h, g, dr, tk, os⟩) :
    wpAny (model prog w) A (compareOp .In (.str x t) (.ref a)) Q E ⟨h, g, dr, tk, os⟩ := by
  obtain ⟨a', vs, n, ha, ht, r⟩ := T.isT
  cases ha
  cases r with
  | cons t1 r =>
    cases r with
    | cons t2 r =>
      cases r
      obtain ⟨u1, rfl⟩ := t1.str_inv
      obtain ⟨u2, rfl⟩ := t2.str_inv
      exact in_tuple_strs (ys := [y, z]) (isTup_of ht) (.cons _ _ (.cons _ _ .nil)) (by simpa using q)

/-! ## texts -/
theorem r_slS {value slice : Expr} {x : Str} {t : Tok} {j : Int} {u : Tok} {Q : Value → Shared → Prop} (S : St prog w K mg mb h₀ L m mu fs h)
    (k : ∀ h' t' tk', St prog w K mg mb h₀ L m mu fs h' → Q (.str (Txt.slice x none (some j)) t') ⟨h', g, dr, tk', os⟩) (hsz : x.length ≤ sizeLine)
    (hs : subscripted slice false (.str x t) (.ref h.objs.size) = operate [.ref h.objs.size, .str x t] (getItem (.str x t) (.ref h.objs.size)) := by with_unfolding_all rfl)
    (hg : ∀ r, letTemporaryGo value (.str x t) r = pure () := by intro _; with_unfolding_all rfl) :
    wpAny (model prog w) A (subscriptTail value slice (.str x t) (.ref h.objs.size)) Q E ⟨h.push { cls := .type "slice", data := .fields #[.none, .int j u, .none] }, g, dr, tk, os⟩ :=
  tail_of_ItemOn (SBH.sliceItem_ns (P := fun h' => Le h h') (s := ⟨h, g, dr, tk, os⟩) (fun _ _ x => x.trans (Le.push _ _)) (Le.refl h) (fun h' t' k' p => k h' t' k' (S.ext p)) hsz) hs hg
end
section
variable {prog : Program} {w : World} {K : Frag} {mg mb : Str → Option Value} {h₀ h h' : Heap} {L : Addr} {m m' : Str → Option Value} {mu mu' : List (Addr × MO)} {fs fs' : List (Value × PyData)}
  {A : Around} {E : Value → Shared → Prop} {g : Array GenState} {dr : Drawn} {os : OsState} {tk : Nat} {env : Env}

/-! ## lists -/
theorem notList {vs : List Value} {n : Nat} : (lobj vs n).cls ≠ .type "tuple" := by
  show Value.type "list" ≠ Value.type "tuple"
  decide
theorem lobj_isList {l : Addr} {vs : List Value} {n : Nat} (e : h.get? l = some (lobj vs n)) : h.IsList l vs.toArray := ⟨_, e, rfl, n, rfl⟩

theorem r_gm {l : Addr} {vs : List Value} {n : Nat} {name : Str} {id : String} {pl : Sem Bool} {Q : Value × List Value → Shared → Prop} (slot : Slot "list" name id) (hty : typeOf (.builtin id) = pure (.type "method_descriptor"))
    (e : h.get? l = some (lobj vs n)) (k : Q (.builtin id, [.ref l]) ⟨h, g, dr, tk, os⟩) : wpAny (model prog w) A (getMethod (.ref l) name pl) Q E ⟨h, g, dr, tk, os⟩ :=
  getMethod_list_of slot hty (lobj_isList e) ⟨_, e, rfl⟩ k
theorem r_gmD {l : Addr} {ds : List PyData} {name : Str} {id : String} {pl : Sem Bool} {Q : Value × List Value → Shared → Prop} (slot : Slot "list" name id) (hty : typeOf (.builtin id) = pure (.type "method_descriptor"))
    (x : (MO.ld ds).Is prog w h l) (k : Q (.builtin id, [.ref l]) ⟨h, g, dr, tk, os⟩) : wpAny (model prog w) A (getMethod (.ref l) name pl) Q E ⟨h, g, dr, tk, os⟩ := by
  obtain ⟨vs, n, e, _⟩ := x
  exact r_gm slot hty e k

theorem upd_get {l : Addr} {vs ws : List Value} {n : Nat} {f : Array Value → Array Value} (e : h.get? l = some (lobj vs n)) (hf : f vs.toArray = ws.toArray) : ∃ n', (h.update l (Obj.mapSeq f)).get? l = some (lobj ws n') := by
  have := IsL.update e f
  rw [hf] at this
  exact ⟨_, this⟩
theorem upd_but {l : Addr} {f : Obj → Obj} : Heap.ExtBut l h (h.update l f) := (Heap.SameBut.update h l f).extBut
theorem tle_upd {l : Addr} {vs : List Value} {n : Nat} {f : Obj → Obj} (e : h.get? l = some (lobj vs n)) : TLe h (h.update l f) := by
  intro a o ws k e1 hc hd
  refine upd_but a o (fun q => ?_) e1
  subst q; rw [e] at e1; cases e1; exact notList hc

theorem r_append {l : Addr} {vs : List Value} {v : Value} {Q : Value → Shared → Prop} (S : St prog w K mg mb h₀ L m mu fs h) (u : Up l (.lst vs) (.lst (vs ++ [v])) mu mu')
    (k : ∀ h' tk', St prog w K mg mb h₀ L m mu' fs h' → Q .none ⟨h', g, dr, tk', os⟩) (hsz : vs.length ≤ sizeLine) :
    wpAny (model prog w) A (call (.builtin "list.append") [.ref l, v]) Q E ⟨h, g, dr, tk, os⟩ := by
  obtain ⟨n, e⟩ := S.mo u.mem
  refine call_meets PySem.F.slot_list_append ⟨_, e, rfl⟩ PySem.F.entry_list_append (PySem.F.args_list_append_2 _ _) (list_append l vs.toArray n v (by simpa using hsz)) ⟨e, ?_⟩
  exact k _ _ (S.upd u (upd_get e (by simp)) upd_but)
theorem r_appendD {l : Addr} {ds : List PyData} {d : PyData} {v : Value} {Q : Value → Shared → Prop} (S : St prog w K mg mb h₀ L m mu fs h) (u : Up l (.ld ds) (.ld (ds ++ [d])) mu mu') (t : TD h v d)
    (k : ∀ h' tk', St prog w K mg mb h₀ L m mu' fs h' → Q .none ⟨h', g, dr, tk', os⟩) (hsz : ds.length ≤ sizeLine) :
    wpAny (model prog w) A (call (.builtin "list.append") [.ref l, v]) Q E ⟨h, g, dr, tk, os⟩ := by
  obtain ⟨vs, n, e, r⟩ := S.mo u.mem
  refine call_meets PySem.F.slot_list_append ⟨_, e, rfl⟩ PySem.F.entry_list_append (PySem.F.args_list_append_2 _ _) (list_append l vs.toArray n v (by simpa [r.length] using hsz)) ⟨e, ?_⟩
  obtain ⟨n', e'⟩ := upd_get (ws := vs ++ [v]) (f := fun xs => xs.push v) e (by simp)
  exact k _ _ (S.upd u ⟨_, n', e', (r.append (.one t)).mono (tle_upd e)⟩ upd_but)
theorem r_pop {l : Addr} {ds : List PyData} {d : PyData} {Q : Value → Shared → Prop} (S : St prog w K mg mb h₀ L m mu fs h) (u : Up l (.ld (ds ++ [d])) (.ld ds) mu mu')
    (k : ∀ v h' tk', St prog w K mg mb h₀ L m mu' ((v, d) :: fs) h' → Q v ⟨h', g, dr, tk', os⟩) (hsz : ds.length < sizeLine) :
    wpAny (model prog w) A (call (.builtin "list.pop") [.ref l]) Q E ⟨h, g, dr, tk, os⟩ := by
  obtain ⟨us, n, e, r⟩ := S.mo u.mem
  obtain ⟨vs, v, rfl, rs, rv⟩ := r.snoc
  have hl := rs.length
  refine call_meets PySem.F.slot_list_pop ⟨_, e, rfl⟩ PySem.F.entry_list_pop (PySem.F.args_list_pop_1 _) (MeetsSeq.list_pop_last l (vs ++ [v]).toArray n v (by simp) (by simp; omega)) ⟨e, ?_⟩
  obtain ⟨n', e'⟩ := upd_get (ws := vs) (f := fun xs => xs.eraseIdxIfInBounds ((vs ++ [v]).toArray.size - 1)) e (by simp [List.eraseIdx_append_of_length_le])
  exact k v _ _ ((S.upd u ⟨_, n', e', rs.mono (tle_upd e)⟩ upd_but).fact (rv.mono (tle_upd e)))
theorem door (a b : Nat) (hsz : a + b < 2 ^ 24) : ∀ e : Bool, ¬(e && Builtin.List.listTooLong (a + b)) = true := by
  intro e
  have : Builtin.List.listTooLong (a + b) = false := by
    unfold Builtin.List.listTooLong
    have z : sizeLine = 2 ^ 24 := rfl
    simp
    omega
  rw [this]; simp
theorem r_extendL {l b : Addr} {ds es : List PyData} {Q : Value → Shared → Prop} (S : St prog w K mg mb h₀ L m mu fs h) (u : Up l (.ld ds) (.ld (ds ++ es)) mu mu') (x : (MO.ld es).Is prog w h b)
    (k : ∀ h' tk', St prog w K mg mb h₀ L m mu' fs h' → Q .none ⟨h', g, dr, tk', os⟩) (hsz : ds.length + es.length < 2 ^ 24) :
    wpAny (model prog w) A (call (.builtin "list.extend") [.ref l, .ref b]) Q E ⟨h, g, dr, tk, os⟩ := by
  obtain ⟨vs, n, e, r⟩ := S.mo u.mem
  obtain ⟨ws, n2, e2, r2⟩ := x
  have l1 := r.length
  have l2 := r2.length
  have z : sizeLine = 2 ^ 24 := rfl
  refine call_meets PySem.F.slot_list_extend ⟨_, e, rfl⟩ PySem.F.entry_list_extend (PySem.F.args_list_extend_2 _ _) (AutoSeq1.list_extend_list_list_0 l vs.toArray n b ws.toArray n2 (door _ _ (by simp; omega) _) (by simp; omega) (by simp; omega)) ⟨e, e2, ?_⟩
  obtain ⟨n', e'⟩ := upd_get (ws := vs ++ ws) (f := fun x => x ++ ws.toArray) e (by simp)
  exact k _ _ (S.upd u ⟨_, n', e', (r.append r2).mono (tle_upd e)⟩ upd_but)
theorem r_extendT {l b : Addr} {ds es : List PyData} {Q : Value → Shared → Prop} (S : St prog w K mg mb h₀ L m mu fs h) (u : Up l (.ld ds) (.ld (ds ++ es)) mu mu') (t : TD h (.ref b) (.tuple es))
    (k : ∀ h' tk', St prog w K mg mb h₀ L m mu' fs h' → Q .none ⟨h', g, dr, tk', os⟩) (hsz : ds.length + es.length < 2 ^ 24) :
    wpAny (model prog w) A (call (.builtin "list.extend") [.ref l, .ref b]) Q E ⟨h, g, dr, tk, os⟩ := by
  obtain ⟨vs, n, e, r⟩ := S.mo u.mem
  obtain ⟨b', ws, n2, hb, e2, r2⟩ := t.isT
  cases hb
  have l1 := r.length
  have l2 := r2.length
  have z : sizeLine = 2 ^ 24 := rfl
  refine call_meets PySem.F.slot_list_extend ⟨_, e, rfl⟩ PySem.F.entry_list_extend (PySem.F.args_list_extend_2 _ _) (AutoSeq1.list_extend_list_tuple_0 l vs.toArray n b ws.toArray n2 (door _ _ (by simp; omega) _) (by simp; omega) (by simp; omega)) ⟨e, e2, ?_⟩
  obtain ⟨n', e'⟩ := upd_get (ws := vs ++ ws) (f := fun x => x ++ ws.toArray) e (by simp)
  exact k _ _ (S.upd u ⟨_, n', e', (r.append r2).mono (tle_upd e)⟩ upd_but)
theorem r_reverse {l : Addr} {ds : List PyData} {Q : Value → Shared → Prop} (S : St prog w K mg mb h₀ L m mu fs h) (u : Up l (.ld ds) (.ld ds.reverse) mu mu')
    (k : ∀ h' tk', St prog w K mg mb h₀ L m mu' fs h' → Q .none ⟨h', g, dr, tk', os⟩) (hsz : ds.length ≤ sizeLine) :
    wpAny (model prog w) A (call (.builtin "list.reverse") [.ref l]) Q E ⟨h, g, dr, tk, os⟩ := by
  obtain ⟨vs, n, e, r⟩ := S.mo u.mem
  refine call_meets PySem.F.slot_list_reverse ⟨_, e, rfl⟩ PySem.F.entry_list_reverse (PySem.F.args_list_reverse_1 _) (AutoSeq1.list_reverse_list_0 l vs.toArray n (by simpa [r.length] using hsz)) ⟨e, ?_⟩
  obtain ⟨n', e'⟩ := upd_get (ws := vs.reverse) (f := fun x => x.reverse) e (by simp)
  exact k _ _ (S.upd u ⟨_, n', e', r.reverse.mono (tle_upd e)⟩ upd_but)
theorem r_lenL {l : Addr} {ds : List PyData} {Q : Value → Shared → Prop} (x : (MO.ld ds).Is prog w h l) (hsz : ds.length < 2 ^ 40) (k : ∀ t' tk', Q (.int ds.length t') ⟨h, g, dr, tk', os⟩) :
    wpAny (model prog w) A (call (.builtin "len") [.ref l]) Q E ⟨h, g, dr, tk, os⟩ := by
  obtain ⟨vs, n, e, r⟩ := x
  have hl := r.length
  refine PyProof.Rows.len_list (lobj_isList e) (by simp; omega) ?_
  have e' : ((vs.toArray.size : Nat) : Int) = (ds.length : Int) := by rw [List.size_toArray, r.length]
  rw [e']
  exact k _ _
theorem r_newList {vs : List Value} {ds : List PyData} {Q : Value → Shared → Prop} (S : St prog w K mg mb h₀ L m mu fs h) (t : TDs h vs ds)
    (k : ∀ a h' tk', Le h h' → St prog w K mg mb h₀ L m ((a, .ld ds) :: mu) fs h' → Q (.ref a) ⟨h', g, dr, tk', os⟩) (hsz : vs.length ≤ sizeLine) :
    wpAny (model prog w) A (newList vs) Q E ⟨h, g, dr, tk, os⟩ := by
  refine wpAny_newObj_type (k _ _ _ (Le.push h _) (S.new ⟨vs, 0, Heap.get?_push_size _ rfl, t.mono (Le.push h _).tle⟩)) ?_
  show vs.toArray.size ≤ sizeLine
  simpa using hsz
end
/-- a claim that no tactic opens by itself -/
structure Hold (P : Prop) : Prop where
  it : P

noncomputable abbrev noE : Value → Shared → Prop := fun _ _ => False

section
variable {prog : Program} {w : World} {A : Around} {E : Value → Shared → Prop} {s : Shared} {env : Env}

theorem noE_mono {α : Type} {M : Model} {A : Around} {t : Sem α} {Q : α → Shared → Prop} {E : Value → Shared → Prop} {s : Shared} (h : wpAny M A t Q noE s) : wpAny M A t Q E s := wpAny_mono h (fun _ _ x => x) fun _ _ x => x.elim

/-! ## loops, raw -/
theorem r_while {test : Expr} {body : List Stmt} {pos : Pos} {Q : Flow → Shared → Prop} (I : Nat → Shared → Prop) (n : Nat) (hI : I n s)
    (turn : ∀ n s, I n s → wpAny (model prog w) A (isTrue test env (eval test env)) (fun b s₂ => if b then wpAny (model prog w) A (execs body env) (fun f s₃ => match f with
      | .next | .cont => Hold (∃ m, m < n ∧ I m s₃)
      | .brk => Q .next s₃
      | .ret v => Q (.ret v) s₃) noE s₂ else Q .next s₂) noE s) :
    wpAny (model prog w) A (exec (.While test body [] pos) env) Q E s := by
  refine wpAny_While (codeAny_whileLoop I (fun n s hI => ?_) n hI)
  refine noE_mono (wpAny_mono (turn n s hI) (fun b s₂ h => ?_) fun _ _ x => x)
  cases b with
  | true =>
    simp only [if_true] at h ⊢
    refine noE_mono (wpAny_mono h (fun f s₃ h₃ => ?_) fun _ _ x => x)
    cases f with
    | next => exact h₃.it
    | cont => exact h₃.it
    | brk => exact h₃
    | ret v => exact h₃
  | false => simp only [Bool.false_eq_true, if_false] at h ⊢; exact wpAny_execs_nil h

theorem r_forLoop {target : Expr} {it : Value} {body : List Stmt} {Q : Flow → Shared → Prop} (I : Nat → Shared → Prop)
    (turn : ∀ n s, I n s → wpAny (model prog w) A (pyNext it) (fun r s₁ => match r with
      | none => Q .next s₁
      | some v => wpAny (model prog w) A (letOwnedTupleGo target it v) (fun _ s₂ => wpAny (model prog w) A (assign target env v) (fun _ s₃ => wpAny (model prog w) A (execs body env) (fun f s₄ => match f with
          | .next | .cont => ∃ m, m < n ∧ I m s₄
          | .brk => Q .next s₄
          | .ret v => Q (.ret v) s₄) noE s₃) noE s₂) noE s₁) noE s) (n : Nat) (hI : I n s) :
    codeAny (model prog w) A (.forLoop target it body [] env) (fun r s' => match r with | .ok f => Q f s' | .error e => cameBackBy (model prog w) A env E e s') s := by
  refine codeAny_loop' rfl I (fun n s hI => ?_) n hI
  show wpAny _ _ ((forTurn target it body [] env).onRaise (fun x => do noteFrame x env; theTreesLotGoes x)) _ _ s
  refine wpAny_noted ?_
  simp only [forTurn]
  refine noE_mono (wpAny_bind (wpAny_standAt (wpAny_bind (wpAny_onRaise (wpAny_mono (turn n s hI) (fun r s₁ h₁ => ?_) fun _ _ x => x.elim)))))
  cases r with
  | none => exact wpAny_pure (.inr ⟨rfl, codeAny_block (wpAny_execs_nil h₁)⟩)
  | some v =>
    refine wpAny_bind (wpAny_mono h₁ (fun _ s₂ h₂ => ?_) fun _ _ x => x)
    refine wpAny_bind (wpAny_mono h₂ (fun _ s₃ h₃ => wpAny_bind (wpAny_mono h₃ (fun f s₄ h₄ => ?_) fun _ _ x => x)) fun _ _ x => x)
    cases f with
    | next => exact wpAny_pure (.inl ⟨rfl, h₄⟩)
    | cont => exact wpAny_pure (.inl ⟨rfl, h₄⟩)
    | brk => exact wpAny_pure h₄
    | ret v => exact wpAny_pure h₄

theorem r_compLoop {elt target iter : Expr} {scope : Scope} {pos : Pos} {it acc : Value} {R : Result → Shared → Prop} (I : Nat → Shared → Prop)
    (turn : ∀ n s, I n s → wpAny (model prog w) A (pyNext it) (fun r s₁ => match r with
      | none => R (.ok .next) s₁
      | some v => wpAny (model prog w) A (letOwnedTupleGo target it v) (fun _ s₂ => wpAny (model prog w) A (assign target env v) (fun _ s₃ => wpAny (model prog w) A (eval elt env) (fun x s₄ =>
          wpAny (model prog w) A (call (.builtin "list.append") [acc, x]) (fun _ s₅ => ∃ m, m < n ∧ I m s₅) noE s₄) noE s₃) noE s₂) noE s₁) noE s) (n : Nat) (hI : I n s) :
    codeAny (model prog w) A (.compLoop (.ListComp elt [⟨target, iter, [], 0⟩] scope pos) 0 it acc env) R s := by
  refine codeAny_loop rfl I (fun n s hI => ?_) n hI
  show wpAny _ A ((compTurn (.ListComp elt [⟨target, iter, [], 0⟩] scope pos) 0 it acc env).onRaise (fun x => do noteFrame x env; theTreesLotGoes x)) _ _ s
  refine wpAny_noted ?_
  rw [compTurn_list1]
  refine noE_mono (wpAny_bind (wpAny_standAt (wpAny_bind (wpAny_mono (turn n s hI) (fun r s₁ h₁ => ?_) fun _ _ x => x))))
  cases r with
  | none => exact wpAny_pure h₁
  | some v =>
    refine wpAny_bind (wpAny_mono h₁ (fun _ s₂ h₂ => ?_) fun _ _ x => x)
    refine wpAny_bind (wpAny_mono h₂ (fun _ s₃ h₃ => ?_) fun _ _ x => x)
    refine wpAny_bind (wpAny_bind (wpAny_mono h₃ (fun x s₄ h₄ => ?_) fun _ _ x => x))
    exact wpAny_bind (wpAny_mono h₄ (fun _ s₅ h₅ => wpAny_pure (wpAny_pure ⟨rfl, h₅⟩)) fun _ _ x => x)

theorem r_compLoopIf {elt target iter c : Expr} {scope : Scope} {pos : Pos} {it acc : Value} {R : Result → Shared → Prop} (I : Nat → Shared → Prop)
    (turn : ∀ n s, I n s → wpAny (model prog w) A (pyNext it) (fun r s₁ => match r with
      | none => R (.ok .next) s₁
      | some v => wpAny (model prog w) A (letOwnedTupleGo target it v) (fun _ s₂ => wpAny (model prog w) A (assign target env v) (fun _ s₃ => wpAny (model prog w) A (isTrue c env (eval c env)) (fun ok s₄ =>
          if ok = true then wpAny (model prog w) A (eval elt env) (fun x s₄ =>
            wpAny (model prog w) A (call (.builtin "list.append") [acc, x]) (fun _ s₅ => ∃ m, m < n ∧ I m s₅) noE s₄) noE s₄ else ∃ m, m < n ∧ I m s₄) noE s₃) noE s₂) noE s₁) noE s) (n : Nat) (hI : I n s) :
    codeAny (model prog w) A (.compLoop (.ListComp elt [⟨target, iter, [c], 0⟩] scope pos) 0 it acc env) R s := by
  refine codeAny_loop rfl I (fun n s hI => ?_) n hI
  show wpAny _ A ((compTurn (.ListComp elt [⟨target, iter, [c], 0⟩] scope pos) 0 it acc env).onRaise (fun x => do noteFrame x env; theTreesLotGoes x)) _ _ s
  refine wpAny_noted ?_
  rw [compTurn_list]
  refine noE_mono (wpAny_bind (wpAny_standAt (wpAny_bind (wpAny_mono (turn n s hI) (fun r s₁ h₁ => ?_) fun _ _ x => x))))
  cases r with
  | none => exact wpAny_pure h₁
  | some v =>
    refine wpAny_bind (wpAny_mono h₁ (fun _ s₂ h₂ => ?_) fun _ _ x => x)
    refine wpAny_bind (wpAny_mono h₂ (fun _ s₃ h₃ => wpAny_bind ?_) fun _ _ x => x)
    rw [List.forIn_cons]
    refine wpAny_bind ?_
    simp only [if_true]
    refine wpAny_bind (wpAny_mono h₃ (fun ok s₄ h₄ => wpAny_pure (wpAny_pure ?_)) fun _ _ x => x)
    cases ok with
    | false => exact wpAny_pure ⟨rfl, by simpa using h₄⟩
    | true =>
      simp only [if_true] at h₄
      exact wpAny_bind (wpAny_bind (wpAny_mono h₄ (fun x s₄ h₄ => wpAny_bind (wpAny_mono h₄ (fun _ s₅ h₅ => wpAny_pure (wpAny_pure ⟨rfl, h₅⟩)) fun _ _ h' => h')) fun _ _ h' => h'))

/-- the outer turn of a comprehension of two clauses -/
theorem compTurn_two (elt t1 i1 t2 i2 : Expr) (scope : Scope) (pos : Pos) (it acc : Value) (env : Env) :
    compTurn (.ListComp elt [⟨t1, i1, [], 0⟩, ⟨t2, i2, [], 0⟩] scope pos) 0 it acc env = (standAt i1.pos >>= fun _ => pyNext it >>= fun r => match r with
      | none => pure (.done .next)
      | some v => letOwnedTupleGo t1 it v >>= fun _ => assign t1 env v >>= fun _ => (eval i2 env >>= fun x => standAt i2.pos >>= fun _ => foldedSetIterable i2 env x >>= fun x =>
          holding [x] (pyIter x) >>= fun it2 => runOwn (.compStart (.ListComp elt [⟨t1, i1, [], 0⟩, ⟨t2, i2, [], 0⟩] scope pos) 1 it2 acc env) env >>= fun _ =>
          again (.compLoop (.ListComp elt [⟨t1, i1, [], 0⟩, ⟨t2, i2, [], 0⟩] scope pos) 0 it acc env))) := by rfl
theorem compTurn_two1 (elt t1 i1 t2 i2 : Expr) (scope : Scope) (pos : Pos) (it acc : Value) (env : Env) :
    compTurn (.ListComp elt [⟨t1, i1, [], 0⟩, ⟨t2, i2, [], 0⟩] scope pos) 1 it acc env = (standAt i2.pos >>= fun _ => pyNext it >>= fun r => match r with
      | none => pure (.done .next)
      | some v => letOwnedTupleGo t2 it v >>= fun _ => assign t2 env v >>= fun _ =>
        (eval elt env >>= fun x => call (.builtin "list.append") [acc, x] >>= fun _ => pure ()) >>= fun _ =>
          again (.compLoop (.ListComp elt [⟨t1, i1, [], 0⟩, ⟨t2, i2, [], 0⟩] scope pos) 1 it acc env)) := by rfl
end
section
variable {prog : Program} {w : World} {K : Frag} {mg mb : Str → Option Value} {h₀ h h' : Heap} {L : Addr} {m m' : Str → Option Value} {mu mu' : List (Addr × MO)} {fs fs' fsx : List (Value × PyData)}
  {A : Around} {E : Value → Shared → Prop} {g : Array GenState} {dr : Drawn} {os : OsState} {tk : Nat} {env : Env}

/-- the frame about a comprehension, as its ground h₁ holds it -/
structure Outer (prog : Program) (w : World) (K : Frag) (mg mb : Str → Option Value) (h₀ : Heap) (L : Addr) (m : Str → Option Value) (mu : List (Addr × MO)) (h₁ : Heap) : Prop where
  gd : Gd K mg mb h₀
  le : Le h₀ h₁
  ns : h₁.Ns L m
  off : h₀.get? L = none
  mus : ∀ p ∈ mu, p.2.Is prog w h₁ p.1 ∧ h₀.get? p.1 = none ∧ p.1 ≠ L
  nd : (mu.map (·.1)).Nodup

theorem Outer.at {h₁ : Heap} {C : Addr} {mc : Str → Option Value} {muc : List (Addr × MO)} {fsc : List (Value × PyData)} (O : Outer prog w K mg mb h₀ L m mu h₁) (S : St prog w K mg mb h₁ C mc muc fsc h) {a : Addr} {mo : MO} (hm : (a, mo) ∈ mu) :
    mo.Is prog w h a := (O.mus _ hm).1.at S.cx.keep.tle fun o => S.cx.keep _ o

theorem Outer.back {h₁ : Heap} {C : Addr} {mc : Str → Option Value} {muc : List (Addr × MO)} {fsc : List (Value × PyData)} (O : Outer prog w K mg mb h₀ L m mu h₁) (S : St prog w K mg mb h₁ C mc muc fsc h) (hs : Heap.ExtBut C h h') :
    St prog w K mg mb h₀ L m (muc ++ mu) fsc h' := by
  have t : TLe h h' := S.tle fun b o hb _ e => hs b o hb e
  obtain ⟨oL, es, ep, eL, r⟩ := O.ns
  have up : ∀ b o, h₁.get? b = some o → h'.get? b = some o := fun b o e => hs b o (fun q => by rw [q, S.off] at e; cases e) (S.cx.keep b o e)
  refine ⟨⟨O.gd, O.le.trans up, fun p hp => ?_, ?_, fun p hp => (S.cx.tds p hp).mono t⟩, ⟨oL, es, ep, up _ _ eL, r⟩, O.off, fun p hp => ?_⟩
  · rcases List.mem_append.mp hp with hp | hp
    · refine ⟨(S.cx.mus p hp).1.at t fun o e => hs _ o (S.ne p hp) e, ?_⟩
      cases q : h₀.get? p.1 with
      | none => rfl
      | some o => have := (S.cx.mus p hp).2; rw [O.le _ _ q] at this; cases this
    · exact ⟨(O.mus p hp).1.at (TLe.trans S.cx.keep.tle t) (fun o e => up _ o e), (O.mus p hp).2.1⟩
  · rw [List.map_append]
    refine List.nodup_append.mpr ⟨S.cx.nd, O.nd, fun a ha b hb q => ?_⟩
    obtain ⟨p, hp, rfl⟩ := List.mem_map.mp ha
    obtain ⟨p', hp', rfl⟩ := List.mem_map.mp hb
    obtain ⟨o, e⟩ := (O.mus p' hp').1.ex
    have := (S.cx.mus p hp).2
    rw [q, e] at this; cases this
  · rcases List.mem_append.mp hp with hp | hp
    · intro q
      have := (S.cx.mus p hp).2
      rw [q, eL] at this; cases this
    · exact (O.mus p hp).2.2

theorem comp_core {e : Expr} {elt target iter : Expr} {ifs : List Expr} {rest : List Comprehension} {scope : Scope} {pos : Pos} {cl : List (Str × Addr)} {I : Addr} {muI : List (Addr × MO)} {RR : Value → Addr → Result → Shared → Prop}
    (he : e = .ListComp elt (⟨target, iter, ifs, 0⟩ :: rest) scope pos)
    (S : St prog w K mg mb h₀ L m (muI ++ mu) fs h) (hcell : (scope.names.all fun y => y.2 != .cell) = true) (hkind : scope.kind = .function)
    (hself : ∀ (h' : Heap) (t' : Nat) (Q : Value → Shared → Prop) (E : Value → Shared → Prop), (∀ p ∈ muI, p.2.Is prog w h' p.1) → Q (.ref I) ⟨h', g, dr, t', os⟩ → wpAny (model prog w) A (pyIter (.ref I)) Q E ⟨h', g, dr, t', os⟩)
    (k : ∀ h₁ C D h' tk', Outer prog w K mg mb h₀ L m mu h₁ → St prog w K mg mb h₁ C (fun _ => none) ((D, .lst []) :: muI) fs h' →
      codeAny (model prog w) A (.compLoop e 0 (.ref I) (.ref D) (compEnvC scope cl C env)) (RR (.ref D) C) ⟨h', g, dr, tk', os⟩) :
    wpAny (model prog w) A (newList []) (fun acc s₃ => wpAny (model prog w) A (newFunctionEnv scope env.globals cl [] env.qual none .none (some env)) (fun cenv s₄ =>
      codeAny (model prog w) A (.compStart e 0 (.ref I) acc { cenv with scope := relabel scope env }) (RR acc cenv.locals) s₄) E s₃) E ⟨h, g, dr, tk, os⟩ := by
  subst he
  have hcell' : ∀ x ∈ scope.names, x.2 ≠ .cell := fun x hx => by have := List.all_eq_true.mp hcell x hx; simpa using this
  refine wpAny_newObj_type (wpAny_newFunctionEnv hcell' (by intro y hy; simp at hy) (fun h₁ hns₁ hsb₁ => ?_) hkind)
  dsimp only at hns₁ hsb₁ ⊢
  generalize hH2 : h.push { cls := .type "list", dict := none, data := .seq ([] : List Value).toArray } = H2 at hns₁ hsb₁ ⊢
  have hC : H2.objs.size = h.objs.size + 1 := by rw [← hH2, Heap.size_push]
  have l2 : Le h H2 := hH2 ▸ Le.push h _
  have l1 : Le h h₁ := fun b o e => hsb₁.extBut b o (Nat.ne_of_lt (Heap.lt_size (l2 b o e))) (Heap.get?_push_of_some _ (l2 b o e))
  -- the ground of the comprehension: all that stands but the walker
  have hid : Le (hideAll h (muI.map (·.1))) h := fun b o e => of_hideAll _ e
  have inI : ∀ p ∈ muI, p ∈ muI ++ mu := fun p hp => List.mem_append_left _ hp
  have inM : ∀ p ∈ mu, p ∈ muI ++ mu := fun p hp => List.mem_append_right _ hp
  have nd := S.cx.nd
  rw [List.map_append] at nd
  obtain ⟨ndI, ndM, ndx⟩ := List.nodup_append.mp nd
  have tg : TLe h (hideAll h (muI.map (·.1))) := fun a o vs n e hc hd => hideAll_get _ e fun q => by
    obtain ⟨p, hp, rfl⟩ := List.mem_map.mp q
    exact (S.cx.mus p (inI p hp)).1.notTup e hc hd
  have l0 : Le h₀ (hideAll h (muI.map (·.1))) := fun b o e => hideAll_get _ (S.cx.keep b o e) fun q => by
    obtain ⟨p, hp, rfl⟩ := List.mem_map.mp q
    rw [(S.cx.mus p (inI p hp)).2] at e; cases e
  have O : Outer prog w K mg mb h₀ L m mu (hideAll h (muI.map (·.1))) := by
    refine ⟨S.cx.gd, l0, ?_, S.off, fun p hp => ⟨(S.cx.mus p (inM p hp)).1.at tg fun o e => hideAll_get _ e fun q => ?_, (S.cx.mus p (inM p hp)).2, S.ne p (inM p hp)⟩, ndM⟩
    · obtain ⟨oL, es, ep, eL, r⟩ := S.ns
      refine ⟨oL, es, ep, hideAll_get _ eL fun q => ?_, r⟩
      obtain ⟨p, hp, q'⟩ := List.mem_map.mp q
      exact S.ne p (inI p hp) q'
    · exact ndx _ q _ (List.mem_map_of_mem hp) rfl
  have none_of : ∀ a, h.objs.size ≤ a → (hideAll h (muI.map (·.1))).get? a = none := fun a ha => by
    cases q : (hideAll h (muI.map (·.1))).get? a with
    | none => rfl
    | some o => exact absurd (Heap.lt_size (hid _ _ q)) (Nat.not_lt.mpr ha)
  have hDC : h.objs.size ≠ H2.objs.size := by rw [hC]; exact Nat.ne_of_lt (Nat.lt_succ_self _)
  have ltI : ∀ p ∈ muI, p.1 < h.objs.size := fun p hp => by obtain ⟨o, e⟩ := (S.cx.mus p (inI p hp)).1.ex; exact Heap.lt_size e
  have Sc : St prog w K mg mb (hideAll h (muI.map (·.1))) H2.objs.size (fun _ => none) ((h.objs.size, .lst []) :: muI) fs h₁ := by
    refine ⟨⟨S.cx.gd.le l0, hid.trans l1, fun p hp => ?_, ?_, fun p hp => (S.cx.tds p hp).mono l1.tle⟩, ?_, none_of _ (by rw [hC]; exact Nat.le_succ _), fun p hp => ?_⟩
    · rcases List.mem_cons.mp hp with rfl | hp
      · refine ⟨⟨0, ?_⟩, none_of _ (Nat.le_refl _)⟩
        exact hsb₁.extBut _ _ hDC (Heap.get?_push_of_some _ (hH2 ▸ Heap.get?_push_size _ rfl))
      · exact ⟨(S.cx.mus p (inI p hp)).1.at l1.tle fun o => l1 _ o, hideAll_none _ (List.mem_map_of_mem hp)⟩
    · rw [List.map_cons, List.nodup_cons]
      refine ⟨fun q => ?_, ndI⟩
      obtain ⟨p, hp, q'⟩ := List.mem_map.mp q
      have := ltI p hp
      rw [q'] at this; exact Nat.lt_irrefl _ this
    · simpa using hns₁
    · rcases List.mem_cons.mp hp with rfl | hp
      · exact hDC
      · intro q
        have := ltI p hp
        rw [q, hC] at this; exact Nat.lt_irrefl _ (Nat.lt_of_succ_lt this)
  exact codeAny_compStart_list (k _ _ _ _ _ O Sc) (hself _ _ _ _ (fun p hp => (Sc.cx.mus p (.tail _ hp)).1) (k _ _ _ _ _ O Sc))

/-- a comprehension of one clause where its value is asked -/
theorem r_comp {elt target iter : Expr} {ifs : List Expr} {rest : List Comprehension} {scope : Scope} {pos : Pos} {cl : List (Str × Addr)} {Q : Value → Shared → Prop} (_S : St prog w K mg mb h₀ L m mu' fsx h)
    (hclos : closureFor scope env = pure cl) (hcell : (scope.names.all fun y => y.2 != .cell) = true) (hkind : scope.kind = .function) (hnames : (scope.names.all fun y => y.2 != .local || scope.names.lookup y.1 == some .local) = true)
    (hh : wpAny (model prog w) A (eval iter env) (fun x s₁ => wpAny (model prog w) A (pyIter x) (fun it s₂ => ∃ h₂ tk₂ I muI fs₂ mu₂, it = .ref I ∧ s₂ = ⟨h₂, g, dr, tk₂, os⟩ ∧ St prog w K mg mb h₀ L m (muI ++ mu₂) fs₂ h₂ ∧
      (∀ (h' : Heap) (t' : Nat) (Q : Value → Shared → Prop) (E : Value → Shared → Prop), (∀ p ∈ muI, p.2.Is prog w h' p.1) → Q (.ref I) ⟨h', g, dr, t', os⟩ → wpAny (model prog w) A (pyIter (.ref I)) Q E ⟨h', g, dr, t', os⟩) ∧
      (∀ h₁ C D h' tk', Outer prog w K mg mb h₀ L m mu₂ h₁ → St prog w K mg mb h₁ C (fun _ => none) ((D, .lst []) :: muI) fs₂ h' →
        codeAny (model prog w) A (.compLoop (.ListComp elt (⟨target, iter, ifs, 0⟩ :: rest) scope pos) 0 (.ref I) (.ref D) (compEnvC scope cl C env)) (fun r s' => (∃ f, r = .ok f) ∧ ∃ muR fs' m' h₅ tk₅, s' = ⟨h₅, g, dr, tk₅, os⟩ ∧
          St prog w K mg mb h₁ C m' muR fs' h₅ ∧ ∀ h₆ tk₆, St prog w K mg mb h₀ L m (muR ++ mu₂) fs' h₆ → Q (.ref D) ⟨h₆, g, dr, tk₆, os⟩) ⟨h', g, dr, tk', os⟩)) E s₁) E ⟨h, g, dr, tk, os⟩)
    (hs : ∀ x, foldedSetIterable iter env x = pure x := by intro _; rfl) :
    wpAny (model prog w) A (eval (.ListComp elt (⟨target, iter, ifs, 0⟩ :: rest) scope pos) env) Q E ⟨h, g, dr, tk, os⟩ := by
  have hnames' : ∀ x ∈ scope.names, x.2 = .local → scope.names.lookup x.1 = some .local := fun x hx hl => by
    have := List.all_eq_true.mp hnames x hx
    simpa [hl] using this
  rw [eval_ListComp]
  refine wpAny_comprehension_free (use := none) rfl hs hclos hkind hnames' (wpAny_mono hh (fun x s₁ h₁ => wpAny_mono h₁ (fun it s₂ h₂ => ?_) fun _ _ e => e) fun _ _ e => e)
  obtain ⟨h₂, tk₂, I, muI, fs₂, mu₂, rfl, rfl, S, hself, hk⟩ := h₂
  refine comp_core (RR := fun acc C => compPost (model prog w) A E none Q acc C) rfl S hcell hkind hself fun h₁ C D h' tk' O Sc => ?_
  refine codeAny_mono (hk h₁ C D h' tk' O Sc) fun r s' hr => ?_
  obtain ⟨⟨f, rfl⟩, muR, fs', m', h₅, tk₅, rfl, Sd, hq⟩ := hr
  exact ⟨m', Sd.ns, fun h₆ hs₆ => hq h₆ _ (O.back Sd hs₆.extBut)⟩

/-- a comprehension of one clause bound to a name of the frame -/
theorem r_compA {elt target iter : Expr} {ifs : List Expr} {rest : List Comprehension} {scope : Scope} {pos spos py : Pos} {y : Str} {cl : List (Str × Addr)} {Q : Flow → Shared → Prop} (_S : St prog w K mg mb h₀ L m mu' fsx h)
    (hsw : swapsWith (.ListComp elt (⟨target, iter, ifs, 0⟩ :: rest) scope pos) (some (.Name y py)) spos.line env = pure true)
    (hclos : closureFor scope env = pure cl) (hcell : (scope.names.all fun y => y.2 != .cell) = true) (hkind : scope.kind = .function) (hnames : (scope.names.all fun y => y.2 != .local || scope.names.lookup y.1 == some .local) = true)
    (hh : wpAny (model prog w) A (eval iter env) (fun x s₁ => wpAny (model prog w) A (pyIter x) (fun it s₂ => ∃ h₂ tk₂ I muI fs₂ mu₂, it = .ref I ∧ s₂ = ⟨h₂, g, dr, tk₂, os⟩ ∧ St prog w K mg mb h₀ L m (muI ++ mu₂) fs₂ h₂ ∧
      (∀ (h' : Heap) (t' : Nat) (Q : Value → Shared → Prop) (E : Value → Shared → Prop), (∀ p ∈ muI, p.2.Is prog w h' p.1) → Q (.ref I) ⟨h', g, dr, t', os⟩ → wpAny (model prog w) A (pyIter (.ref I)) Q E ⟨h', g, dr, t', os⟩) ∧
      (∀ h₁ C D h' tk', Outer prog w K mg mb h₀ L m mu₂ h₁ → St prog w K mg mb h₁ C (fun _ => none) ((D, .lst []) :: muI) fs₂ h' →
        codeAny (model prog w) A (.compLoop (.ListComp elt (⟨target, iter, ifs, 0⟩ :: rest) scope pos) 0 (.ref I) (.ref D) (compEnvC scope cl C env)) (fun r s' => (∃ f, r = .ok f) ∧ ∃ muR fs' m' h₅ tk₅, s' = ⟨h₅, g, dr, tk₅, os⟩ ∧
          St prog w K mg mb h₁ C m' muR fs' h₅ ∧ ∀ h₆ tk₆, St prog w K mg mb h₀ L (fun z => if z = y then some (.ref D) else m z) (muR ++ mu₂) fs' h₆ → Q .next ⟨h₆, g, dr, tk₆, os⟩) ⟨h', g, dr, tk', os⟩)) E s₁) E ⟨h, g, dr, tk, os⟩)
    (hL : env.locals = L := by k_dflt rfl) (hek : env.scope.kind = .function := by k_dflt rfl) (hy : env.kindOf y = some .local := by k_dflt rfl)
    (hs : ∀ x, foldedSetIterable iter env x = pure x := by intro _; rfl) :
    wpAny (model prog w) A (exec (.Assign [.Name y py] (.ListComp elt (⟨target, iter, ifs, 0⟩ :: rest) scope pos) spos) env) Q E ⟨h, g, dr, tk, os⟩ := by
  subst hL
  have hnames' : ∀ x ∈ scope.names, x.2 = .local → scope.names.lookup x.1 = some .local := fun x hx hl => by
    have := List.all_eq_true.mp hnames x hx
    simpa [hl] using this
  rw [exec_Assign_Name_used _ _ _ _ hsw]
  refine wpAny_bind (wpAny_standAt (wpAny_bind ?_))
  show wpAny _ A (do let _ ← comprehension (.ListComp elt (⟨target, iter, ifs, 0⟩ :: rest) scope pos) scope env _ (newList []) false (eval iter env) (some (assign (.Name y py) env))) _ _ _
  refine wpAny_bind (wpAny_mono (wpAny_comprehension_free (use := some (assign (.Name y py) env)) (Q := fun _ s' => Q .next s') rfl hs hclos hkind hnames'
    (wpAny_mono hh (fun x s₁ h₁ => wpAny_mono h₁ (fun it s₂ h₂ => ?_) fun _ _ e => e) fun _ _ e => e)) (fun _ s' hq => wpAny_pure (wpAny_pure hq)) fun _ _ e => e)
  obtain ⟨h₂, tk₂, I, muI, fs₂, mu₂, rfl, rfl, S, hself, hk⟩ := h₂
  refine comp_core (RR := fun acc C => compPost (model prog w) A E (some (assign (.Name y py) env)) (fun _ s' => Q .next s') acc C) rfl S hcell hkind hself fun h₁ C D h' tk' O Sc => ?_
  refine codeAny_mono (hk h₁ C D h' tk' O Sc) fun r s' hr => ?_
  obtain ⟨⟨f, rfl⟩, muR, fs', m', h₅, tk₅, rfl, Sd, hq⟩ := hr
  show wpAny _ A (assign (.Name y py) env (.ref D)) _ _ _
  have hCL : C ≠ env.locals := fun q => by
    obtain ⟨oL, es, ep, eL, _⟩ := O.ns
    have := Sd.off
    rw [q, eL] at this; cases this
  have So := O.back Sd (Heap.ExtBut.refl C h₅)
  refine PySem.wpAny_assign_Name (wpAny_storeName_local hy So.ns (fun h₆ hn₆ hs₆ => ?_) (by rw [hek]; rfl))
  refine ⟨m', Sd.ns.sameBut hs₆ hCL, fun h₇ hs₇ => ?_⟩
  have hok : Heap.ExtBut C h₆ h₇ := hs₇.extBut
  -- the frame's own names stand at another place than the comprehension's
  have S6 := So.loc hn₆ hs₆.extBut
  have t : TLe h₆ h₇ := by
    intro a o ws n e hc hd
    refine hok a o (fun q => ?_) e
    subst q
    exact Ns.notTup (Sd.ns.sameBut hs₆ hCL) e hd
  refine hq h₇ _ ⟨⟨S6.cx.gd, fun b o e => hok b o (fun q => ?_) (S6.cx.keep b o e), fun p hp => ⟨(S6.cx.mus p hp).1.at t fun o e => hok _ o (fun q => ?_) e, (S6.cx.mus p hp).2⟩, S6.cx.nd, fun p hp => (S6.cx.tds p hp).mono t⟩, S6.ns.extBut hok (Ne.symm hCL), S6.off, S6.ne⟩
  · have := Sd.off
    rw [← q, O.le _ _ e] at this; cases this
  · rcases List.mem_append.mp hp with hp | hp
    · exact Sd.ne p hp q
    · obtain ⟨o', e'⟩ := (O.mus p hp).1.ex
      have := Sd.off
      rw [← q, e'] at this; cases this
end
section
variable {prog : Program} {w : World} {K : Frag} {mg mb : Str → Option Value} {h₀ h h' : Heap} {L : Addr} {m m' : Str → Option Value} {mu mu' mu₁ mu₂ : List (Addr × MO)} {fs fs' : List (Value × PyData)}
  {A : Around} {E : Value → Shared → Prop} {g : Array GenState} {dr : Drawn} {os : OsState} {tk : Nat} {env : Env}

/-- the front part of what may turn has turned -/
theorem St.turn (S : St prog w K mg mb h₀ L m (mu₁ ++ mu) fs h) (hs : ∀ b o, b ∉ mu₁.map (·.1) → h.get? b = some o → h'.get? b = some o)
    (hm : ∀ p ∈ mu₂, p.2.Is prog w h' p.1 ∧ p.1 ∈ mu₁.map (·.1)) (nd₂ : (mu₂.map (·.1)).Nodup) : St prog w K mg mb h₀ L m (mu₂ ++ mu) fs h' := by
  have nd := S.cx.nd
  rw [List.map_append] at nd
  obtain ⟨ndI, ndM, ndx⟩ := List.nodup_append.mp nd
  have in1 : ∀ p ∈ mu₁, p ∈ mu₁ ++ mu := fun p hp => List.mem_append_left _ hp
  have in2 : ∀ p ∈ mu, p ∈ mu₁ ++ mu := fun p hp => List.mem_append_right _ hp
  have t : TLe h h' := S.tle fun b o _ hb e => hs b o (fun q => hb (by rw [List.map_append]; exact List.mem_append_left _ q)) e
  have off1 : ∀ a ∈ mu₁.map (·.1), h₀.get? a = none ∧ a ≠ L := fun a ha => by
    obtain ⟨p, hp, rfl⟩ := List.mem_map.mp ha
    exact ⟨(S.cx.mus p (in1 p hp)).2, S.ne p (in1 p hp)⟩
  have hL : L ∉ mu₁.map (·.1) := fun q => (off1 _ q).2 rfl
  refine ⟨⟨S.cx.gd, fun b o e => hs b o (fun q => ?_) (S.cx.keep b o e), fun p hp => ?_, ?_, fun p hp => (S.cx.tds p hp).mono t⟩, S.ns.at fun o e => hs _ o hL e, S.off, fun p hp => ?_⟩
  · rw [(off1 _ q).1] at e; cases e
  · rcases List.mem_append.mp hp with hp | hp
    · exact ⟨(hm p hp).1, (off1 _ (hm p hp).2).1⟩
    · exact ⟨(S.cx.mus p (in2 p hp)).1.at t fun o e => hs _ o (fun q => ndx _ q _ (List.mem_map_of_mem hp) rfl) e, (S.cx.mus p (in2 p hp)).2⟩
  · rw [List.map_append]
    refine List.nodup_append.mpr ⟨nd₂, ndM, fun a ha b hb => ?_⟩
    obtain ⟨p, hp, rfl⟩ := List.mem_map.mp ha
    exact ndx _ (hm p hp).2 _ hb
  · rcases List.mem_append.mp hp with hp | hp
    · exact (off1 _ (hm p hp).2).2
    · exact S.ne p (in2 p hp)

/-! ## the head of a turn -/
noncomputable def mB : List (Str × Value) → (Str → Option Value) → Str → Option Value
  | [], m => m
  | (x, v) :: r, m => mB r (fun y => if y = x then some v else m y)

/-- what the head of a turn gives: the next value of the walker, bound to the target -/
noncomputable def Head (prog : Program) (w : World) (A : Around) (g : Array GenState) (dr : Drawn) (os : OsState) (K : Frag) (mg mb : Str → Option Value) (env : Env) (target : Expr) (it : Value)
    (src : Heap → Prop) (mo : Nat → List (Addr × MO)) (N : Nat) (Rel : Nat → List (Str × Value) → List (Value × PyData) → Prop) : Prop :=
  ∀ (i : Nat) (h₀ : Heap) (m : Str → Option Value) (mu : List (Addr × MO)) (fs : List (Value × PyData)) (h : Heap) (tk : Nat) (B Z : Shared → Prop), i ≤ N → src h →
    St prog w K mg mb h₀ env.locals m (mo i ++ mu) fs h →
    (i = N → ∀ h' tk', St prog w K mg mb h₀ env.locals m mu fs h' → Z ⟨h', g, dr, tk', os⟩) →
    (i < N → ∀ b f h' tk', Rel i b f → St prog w K mg mb h₀ env.locals (mB b m) (mo (i + 1) ++ mu) (f ++ fs) h' → B ⟨h', g, dr, tk', os⟩) →
    wpAny (model prog w) A (pyNext it) (fun r s₁ => match r with
      | none => Z s₁
      | some v => wpAny (model prog w) A (letOwnedTupleGo target it v) (fun _ s₂ => wpAny (model prog w) A (assign target env v) (fun _ s₃ => B s₃) noE s₂) noE s₁) noE ⟨h, g, dr, tk, os⟩

noncomputable abbrev isLoc (env : Env) (x : Str) : Prop := env.kindOf x = some .local
noncomputable abbrev isFun (env : Env) : Prop := (env.scope.kind == .class || (env.scope.kind == .module && env.locals != env.globals)) = false

theorem bind1 {x : Str} {p : Pos} {v : Value} {it : Value} {f : List (Value × PyData)} {B : Shared → Prop} (hx : isLoc env x) (hp : isFun env)
    (S : St prog w K mg mb h₀ env.locals m mu (f ++ fs) h) (k : ∀ h' tk', St prog w K mg mb h₀ env.locals (mB [(x, v)] m) mu (f ++ fs) h' → B ⟨h', g, dr, tk', os⟩) :
    wpAny (model prog w) A (letOwnedTupleGo (.Name x p) it v) (fun _ s₂ => wpAny (model prog w) A (assign (.Name x p) env v) (fun _ s₃ => B s₃) noE s₂) noE ⟨h, g, dr, tk, os⟩ :=
  wpAny_pure (PySem.wpAny_assign_Name (wpAny_storeName_local hx S.ns (fun h' hn hs => k h' _ (S.loc hn hs.extBut)) hp))

/-- a pair bound to two names -/
theorem assign2 {x y : Str} {px py pt : Pos} {x1} {a : Addr} {v₁ v₂ : Value} {B : Shared → Prop} (hh : A.handled = none) (hx : isLoc env x) (hy : isLoc env y) (hp : isFun env)
    (S : St prog w K mg mb h₀ env.locals m mu fs h) (ht : h.IsTuple a #[v₁, v₂]) (k : ∀ h' tk', St prog w K mg mb h₀ env.locals (mB [(x, v₁), (y, v₂)] m) mu fs h' → B ⟨h', g, dr, tk', os⟩) :
    wpAny (model prog w) A (assign (.Tuple [.Name x px, .Name y py] x1 pt) env (.ref a)) (fun _ s₃ => B s₃) noE ⟨h, g, dr, tk, os⟩ := by
  refine wpAny_assign_Tuple hh ht rfl rfl fun h₁ hx₁ => ?_
  replace hx₁ : Heap.ExtBut h.objs.size h h₁ := hx₁
  have l : Le h h₁ := fun b o e => hx₁ b o (Nat.ne_of_lt (Heap.lt_size e)) e
  have S1 := S.ext l
  show wpAny _ A (do holding [v₂] (assign (.Name x px) env v₁); do holding [] (assign (.Name y py) env v₂); pure ()) _ _ _
  refine wpAny_bind (wpAny_holding (PySem.wpAny_assign_Name (wpAny_storeName_local hx S1.ns (fun h₂ hn₂ hs₂ => ?_) hp)))
  have S2 := S1.loc hn₂ hs₂.extBut
  refine wpAny_bind (wpAny_holding (PySem.wpAny_assign_Name (wpAny_storeName_local hy S2.ns (fun h₃ hn₃ hs₃ => wpAny_pure ?_) hp)))
  exact k _ _ (S2.loc hn₃ hs₃.extBut)

theorem assign3 {x y z : Str} {px py pz pt : Pos} {x1} {a : Addr} {v₁ v₂ v₃ : Value} {B : Shared → Prop} (hh : A.handled = none) (hx : isLoc env x) (hy : isLoc env y) (hz : isLoc env z) (hp : isFun env)
    (S : St prog w K mg mb h₀ env.locals m mu fs h) (ht : h.IsTuple a #[v₁, v₂, v₃]) (k : ∀ h' tk', St prog w K mg mb h₀ env.locals (mB [(x, v₁), (y, v₂), (z, v₃)] m) mu fs h' → B ⟨h', g, dr, tk', os⟩) :
    wpAny (model prog w) A (assign (.Tuple [.Name x px, .Name y py, .Name z pz] x1 pt) env (.ref a)) (fun _ s₃ => B s₃) noE ⟨h, g, dr, tk, os⟩ := by
  refine wpAny_assign_Tuple hh ht rfl rfl fun h₁ hx₁ => ?_
  replace hx₁ : Heap.ExtBut h.objs.size h h₁ := hx₁
  have l : Le h h₁ := fun b o e => hx₁ b o (Nat.ne_of_lt (Heap.lt_size e)) e
  have S1 := S.ext l
  show wpAny _ A (do holding [v₂, v₃] (assign (.Name x px) env v₁); do holding [v₃] (assign (.Name y py) env v₂); do holding [] (assign (.Name z pz) env v₃); pure ()) _ _ _
  refine wpAny_bind (wpAny_holding (PySem.wpAny_assign_Name (wpAny_storeName_local hx S1.ns (fun h₂ hn₂ hs₂ => ?_) hp)))
  have S2 := S1.loc hn₂ hs₂.extBut
  refine wpAny_bind (wpAny_holding (PySem.wpAny_assign_Name (wpAny_storeName_local hy S2.ns (fun h₃ hn₃ hs₃ => ?_) hp)))
  have S3 := S2.loc hn₃ hs₃.extBut
  refine wpAny_bind (wpAny_holding (PySem.wpAny_assign_Name (wpAny_storeName_local hz S3.ns (fun h₄ hn₄ hs₄ => wpAny_pure ?_) hp)))
  exact k _ _ (S3.loc hn₄ hs₄.extBut)

/-! ### tuple, name -/
noncomputable abbrev tupMo (I t : Addr) (i : Nat) : List (Addr × MO) := [(I, .itr "tuple_iterator" #[.ref t, .int i 0])]
noncomputable abbrev tdRel (x : Str) (ds : List PyData) (i : Nat) (b : List (Str × Value)) (f : List (Value × PyData)) : Prop := ∃ v d, ds[i]? = some d ∧ b = [(x, v)] ∧ f = [(v, d)]

theorem head_tup {x : Str} {p : Pos} {I t : Addr} {ds : List PyData} (hh : A.handled = none) (hx : isLoc env x) (hp : isFun env) :
    Head prog w A g dr os K mg mb env (.Name x p) (.ref I) (fun h => TD h (.ref t) (.tuple ds)) (tupMo I t) ds.length (tdRel x ds) := by
  intro i h₀ m mu fs h tk B Z hi T S hZ hB
  obtain ⟨t', vs, ht, hT, r⟩ := T.isTup
  cases ht
  have hT' : h.IsTuple t vs.toArray := hT
  have hit : h.IsTupleIter I t i := (S.mo (.head _) : (MO.itr _ _).Is prog w h I)
  have hl := r.length
  rcases Nat.lt_or_eq_of_le hi with hlt | rfl
  · obtain ⟨v, hv⟩ : ∃ v, vs[i]? = some v := ⟨vs[i], by simp [hl, hlt]⟩
    obtain ⟨d, hd, tv⟩ := r.getV hv
    refine wpAny_pyNext_tuple_item hit hT' (by simpa using hv) fun h' hit' hs' => ?_
    have S' : St prog w K mg mb h₀ env.locals m (tupMo I t (i + 1) ++ mu) fs h' := S.turn (mu₁ := tupMo I t i) (fun b o hb e => hs'.extBut b o (fun q => hb (by simp [q])) e)
      (fun p hp => by rw [List.mem_singleton.mp hp]; exact ⟨hit', by simp⟩) (by simp)
    have tv' : TD h' v d := tv.mono (S.tle fun b o _ hb e => hs'.extBut b o (fun q => hb (by simp [q])) e)
    exact bind1 (f := [(v, d)]) hx hp (S'.fact tv') fun h₂ tk₂ S₂ => hB hlt _ [(v, d)] _ _ ⟨v, d, hd, rfl, rfl⟩ S₂
  · refine wpAny_pyNext_tuple_end hh hit hT' (by simp [hl]) fun h' hs' => ?_
    exact hZ rfl _ _ (S.turn (mu₁ := tupMo I t ds.length) (mu₂ := []) (fun b o hb e => hs' b o (fun q => hb (by simp [q])) e) (fun p hp => nomatch hp) (by simp))

/-! ### list, name -/
noncomputable abbrev lstMo (I l : Addr) (i : Nat) : List (Addr × MO) := [(I, .itr "list_iterator" #[.ref l, .int i 0])]

theorem head_list {x : Str} {p : Pos} {I l : Addr} {ds : List PyData} (hh : A.handled = none) (hx : isLoc env x) (hp : isFun env) :
    Head prog w A g dr os K mg mb env (.Name x p) (.ref I) (fun h => (MO.ld ds).Is prog w h l) (lstMo I l) ds.length (tdRel x ds) := by
  intro i h₀ m mu fs h tk B Z hi T S hZ hB
  obtain ⟨vs, n, e0, r⟩ := T
  have hT' : h.IsList l vs.toArray := lobj_isList e0
  have hit : h.IsListIter I l i := (S.mo (.head _) : (MO.itr _ _).Is prog w h I)
  have hl := r.length
  rcases Nat.lt_or_eq_of_le hi with hlt | rfl
  · obtain ⟨v, hv⟩ : ∃ v, vs[i]? = some v := ⟨vs[i], by simp [hl, hlt]⟩
    obtain ⟨d, hd, tv⟩ := r.getV hv
    refine wpAny_pyNext_list_item hit hT' (by simpa using hv) fun h' hit' hs' => ?_
    have S' : St prog w K mg mb h₀ env.locals m (lstMo I l (i + 1) ++ mu) fs h' := S.turn (mu₁ := lstMo I l i) (fun b o hb e => hs'.extBut b o (fun q => hb (by simp [q])) e)
      (fun p hp => by rw [List.mem_singleton.mp hp]; exact ⟨hit', by simp⟩) (by simp)
    have tv' : TD h' v d := tv.mono (S.tle fun b o _ hb e => hs'.extBut b o (fun q => hb (by simp [q])) e)
    exact bind1 (f := [(v, d)]) hx hp (S'.fact tv') fun h₂ tk₂ S₂ => hB hlt _ [(v, d)] _ _ ⟨v, d, hd, rfl, rfl⟩ S₂
  · refine wpAny_pyNext_list_end hh hit hT' (by simp [hl]) fun h' hs' => ?_
    exact hZ rfl _ _ (S.turn (mu₁ := lstMo I l ds.length) (mu₂ := []) (fun b o hb e => hs' b o (fun q => hb (by simp [q])) e) (fun p hp => nomatch hp) (by simp))

noncomputable abbrev rawRel (x : Str) (vs : List Value) (i : Nat) (b : List (Str × Value)) (f : List (Value × PyData)) : Prop := ∃ v, vs[i]? = some v ∧ b = [(x, v)] ∧ f = []
/-- a list of raw values: `IsList` is all that is asked -/
theorem head_raw {x : Str} {p : Pos} {I l : Addr} {vs : List Value} (hh : A.handled = none) (hx : isLoc env x) (hp : isFun env) :
    Head prog w A g dr os K mg mb env (.Name x p) (.ref I) (fun h => h.IsList l vs.toArray) (lstMo I l) vs.length (rawRel x vs) := by
  intro i h₀ m mu fs h tk B Z hi hT' S hZ hB
  have hit : h.IsListIter I l i := (S.mo (.head _) : (MO.itr _ _).Is prog w h I)
  rcases Nat.lt_or_eq_of_le hi with hlt | rfl
  · obtain ⟨v, hv⟩ : ∃ v, vs[i]? = some v := ⟨vs[i], by simp [hlt]⟩
    refine wpAny_pyNext_list_item hit hT' (by simpa using hv) fun h' hit' hs' => ?_
    have S' : St prog w K mg mb h₀ env.locals m (lstMo I l (i + 1) ++ mu) fs h' := S.turn (mu₁ := lstMo I l i) (fun b o hb e => hs'.extBut b o (fun q => hb (by simp [q])) e)
      (fun p hp => by rw [List.mem_singleton.mp hp]; exact ⟨hit', by simp⟩) (by simp)
    exact bind1 (f := []) hx hp S' fun h₂ tk₂ S₂ => hB hlt _ [] _ _ ⟨v, hv, rfl, rfl⟩ S₂
  · refine wpAny_pyNext_list_end hh hit hT' (by simp) fun h' hs' => ?_
    exact hZ rfl _ _ (S.turn (mu₁ := lstMo I l vs.length) (mu₂ := []) (fun b o hb e => hs' b o (fun q => hb (by simp [q])) e) (fun p hp => nomatch hp) (by simp))

/-! ### list of pairs and of triples -/
theorem pairShape {h : Heap} {v : Value} {a b : PyData} (T : TD h v (.tuple [a, b])) : ∃ q v₁ v₂, v = .ref q ∧ h.IsTuple q #[v₁, v₂] ∧ TD h v₁ a ∧ TD h v₂ b := by
  obtain ⟨q, vs, rfl, hT, r⟩ := T.isTup
  cases r with
  | cons r1 r => cases r with
    | cons r2 r => cases r; exact ⟨q, _, _, rfl, hT, r1, r2⟩
theorem triShape {h : Heap} {v : Value} {a b c : PyData} (T : TD h v (.tuple [a, b, c])) : ∃ q v₁ v₂ v₃, v = .ref q ∧ h.IsTuple q #[v₁, v₂, v₃] ∧ TD h v₁ a ∧ TD h v₂ b ∧ TD h v₃ c := by
  obtain ⟨q, vs, rfl, hT, r⟩ := T.isTup
  cases r with
  | cons r1 r => cases r with
    | cons r2 r => cases r with
      | cons r3 r => cases r; exact ⟨q, _, _, _, rfl, hT, r1, r2, r3⟩

noncomputable abbrev pairRel (x y : Str) (ds : List PyData) (i : Nat) (b : List (Str × Value)) (f : List (Value × PyData)) : Prop := ∃ v₁ v₂ d₁ d₂, ds[i]? = some (.tuple [d₁, d₂]) ∧ b = [(x, v₁), (y, v₂)] ∧ f = [(v₁, d₁), (v₂, d₂)]
theorem head_pairs {x y : Str} {px py pt : Pos} {x1} {I l : Addr} {ds : List PyData} (hh : A.handled = none) (hx : isLoc env x) (hy : isLoc env y) (hp : isFun env) (hds : ∀ d ∈ ds, ∃ a b, d = .tuple [a, b]) :
    Head prog w A g dr os K mg mb env (.Tuple [.Name x px, .Name y py] x1 pt) (.ref I) (fun h => (MO.ld ds).Is prog w h l) (lstMo I l) ds.length (pairRel x y ds) := by
  intro i h₀ m mu fs h tk B Z hi T S hZ hB
  obtain ⟨vs, n, e0, r⟩ := T
  have hT' : h.IsList l vs.toArray := lobj_isList e0
  have hit : h.IsListIter I l i := (S.mo (.head _) : (MO.itr _ _).Is prog w h I)
  have hl := r.length
  rcases Nat.lt_or_eq_of_le hi with hlt | rfl
  · obtain ⟨v, hv⟩ : ∃ v, vs[i]? = some v := ⟨vs[i], by simp [hl, hlt]⟩
    obtain ⟨d, hd, tv⟩ := r.getV hv
    obtain ⟨d₁, d₂, rfl⟩ := hds d (List.mem_of_getElem? hd)
    refine wpAny_pyNext_list_item hit hT' (by simpa using hv) fun h' hit' hs' => ?_
    have S' : St prog w K mg mb h₀ env.locals m (lstMo I l (i + 1) ++ mu) fs h' := S.turn (mu₁ := lstMo I l i) (fun b o hb e => hs'.extBut b o (fun q => hb (by simp [q])) e)
      (fun p hp => by rw [List.mem_singleton.mp hp]; exact ⟨hit', by simp⟩) (by simp)
    have tv' : TD h' v (.tuple [d₁, d₂]) := tv.mono (S.tle fun b o _ hb e => hs'.extBut b o (fun q => hb (by simp [q])) e)
    obtain ⟨q, v₁, v₂, rfl, hq, t1, t2⟩ := pairShape tv'
    refine wpAny_letOwnedTupleGo_listiter hit' ?_
    refine assign2 hh hx hy hp ((S'.fact t2).fact t1) hq fun h₂ tk₂ S₂ => ?_
    exact hB hlt _ [(v₁, d₁), (v₂, d₂)] _ _ ⟨v₁, v₂, d₁, d₂, hd, rfl, rfl⟩ S₂
  · refine wpAny_pyNext_list_end hh hit hT' (by simp [hl]) fun h' hs' => ?_
    exact hZ rfl _ _ (S.turn (mu₁ := lstMo I l ds.length) (mu₂ := []) (fun b o hb e => hs' b o (fun q => hb (by simp [q])) e) (fun p hp => nomatch hp) (by simp))

/-- pairs of data, the first name a cell -/
noncomputable def cellAt (ds : List PyData) : Nat → MO
  | 0 => .cellU
  | i + 1 => match ds[i]? with
    | some (.tuple (d :: _)) => .cellD d
    | _ => .cellU
theorem cellAt_ok {ds : List PyData} {i : Nat} : cellAt ds i = .cellU ∨ (∃ v₀, cellAt ds i = .cell v₀) ∨ ∃ d, cellAt ds i = .cellD d := by
  cases i with
  | zero => exact .inl rfl
  | succ i =>
    simp only [cellAt]
    rcases ds[i]? with _ | d
    · exact .inl rfl
    · cases d with
      | tuple l =>
        cases l with
        | nil => exact .inl rfl
        | cons d r => exact .inr (.inr ⟨d, rfl⟩)
      | _ => exact .inl rfl
noncomputable abbrev lstCMo (I l c : Addr) (ds : List PyData) (i : Nat) : List (Addr × MO) := [(I, .itr "list_iterator" #[.ref l, .int i 0]), (c, cellAt ds i)]
noncomputable abbrev pairCRel (y : Str) (ds : List PyData) (i : Nat) (b : List (Str × Value)) (f : List (Value × PyData)) : Prop := ∃ v₂ d₁ d₂, ds[i]? = some (.tuple [d₁, d₂]) ∧ b = [(y, v₂)] ∧ f = [(v₂, d₂)]
theorem head_pairsC {x y : Str} {px py pt : Pos} {x1} {I l c : Addr} {ds : List PyData} (hh : A.handled = none) (hx : env.kindOf x = some .cell) (hc : env.cells.lookup x = some c) (hy : isLoc env y) (hk : env.scope.kind = .function) (hds : ∀ d ∈ ds, ∃ a b, d = .tuple [a, b]) :
    Head prog w A g dr os K mg mb env (.Tuple [.Name x px, .Name y py] x1 pt) (.ref I) (fun h => (MO.ld ds).Is prog w h l) (lstCMo I l c ds) ds.length (pairCRel y ds) := by
  intro i h₀ m mu fs h tk B Z hi T S hZ hB
  have hp : isFun env := by unfold isFun; rw [hk]; rfl
  obtain ⟨vs, n, e0, r⟩ := T
  have hT' : h.IsList l vs.toArray := lobj_isList e0
  have hit : h.IsListIter I l i := (S.mo (.head _) : (MO.itr _ _).Is prog w h I)
  have hl := r.length
  have hIc : I ≠ c := fun q => by have := S.cx.nd; simp [q] at this
  rcases Nat.lt_or_eq_of_le hi with hlt | rfl
  · obtain ⟨v, hv⟩ : ∃ v, vs[i]? = some v := ⟨vs[i], by simp [hl, hlt]⟩
    obtain ⟨d, hd, tv⟩ := r.getV hv
    obtain ⟨d₁, d₂, rfl⟩ := hds d (List.mem_of_getElem? hd)
    refine wpAny_pyNext_list_item hit hT' (by simpa using hv) fun h' hit' hs' => ?_
    have S' : St prog w K mg mb h₀ env.locals m ((I, .itr "list_iterator" #[.ref l, .int (i + 1 : Nat) 0]) :: (c, cellAt ds i) :: mu) fs h' := S.turn (mu₁ := lstMo I l i) (mu₂ := lstMo I l (i + 1)) (mu := (c, cellAt ds i) :: mu) (fun b o hb e => hs'.extBut b o (fun q => hb (by simp [q])) e)
      (fun p hp => by rw [List.mem_singleton.mp hp]; exact ⟨hit', by simp⟩) (by simp)
    have tv' : TD h' v (.tuple [d₁, d₂]) := tv.mono (S.tle fun b o _ hb e => hs'.extBut b o (fun q => hb (by simp [q])) e)
    obtain ⟨q, v₁, v₂, rfl, hq, t1, t2⟩ := pairShape tv'
    refine wpAny_letOwnedTupleGo_listiter hit' ?_
    have S1 := S'.fact t2
    refine wpAny_assign_Tuple hh hq rfl rfl fun h₁ hx₁ => ?_
    replace hx₁ : Heap.ExtBut h'.objs.size h' h₁ := hx₁
    have le : Le h' h₁ := fun b o e => hx₁ b o (Nat.ne_of_lt (Heap.lt_size e)) e
    have S1 := S1.ext le
    show wpAny _ A (do holding [v₂] (assign (.Name x px) env v₁); do holding [] (assign (.Name y py) env v₂); pure ()) _ _ _
    have e1 : cellAt ds (i + 1) = .cellD d₁ := by simp only [cellAt, hd]
    refine wpAny_bind (wpAny_holding (PySem.wpAny_assign_Name (r_storeCD (mu' := (I, .itr "list_iterator" #[.ref l, .int (i + 1 : Nat) 0]) :: (c, .cellD d₁) :: mu) S1 (t1.mono le.tle) hc (.tail .head) cellAt_ok (fun h₂ tk₂ S2 => ?_) hk hx)))
    refine wpAny_bind (wpAny_holding (PySem.wpAny_assign_Name (wpAny_storeName_local hy S2.ns (fun h₃ hn₃ hs₃ => wpAny_pure ?_) hp)))
    refine hB hlt _ [(v₂, d₂)] _ _ ⟨v₂, d₁, d₂, hd, rfl, rfl⟩ ?_
    show St prog w K mg mb h₀ env.locals _ ((I, .itr "list_iterator" #[.ref l, .int (i + 1 : Nat) 0]) :: (c, cellAt ds (i + 1)) :: mu) ((v₂, d₂) :: fs) h₃
    rw [e1]
    exact S2.loc hn₃ hs₃.extBut
  · refine wpAny_pyNext_list_end hh hit hT' (by simp [hl]) fun h' hs' => ?_
    exact hZ rfl _ _ (S.turn (mu₁ := lstCMo I l c ds ds.length) (mu₂ := []) (fun b o hb e => hs' b o (fun q => hb (by simp [q])) e) (fun p hp => nomatch hp) (by simp))

noncomputable abbrev triRel (x y z : Str) (ds : List PyData) (i : Nat) (b : List (Str × Value)) (f : List (Value × PyData)) : Prop := ∃ v₁ v₂ v₃ d₁ d₂ d₃, ds[i]? = some (.tuple [d₁, d₂, d₃]) ∧ b = [(x, v₁), (y, v₂), (z, v₃)] ∧ f = [(v₁, d₁), (v₂, d₂), (v₃, d₃)]
theorem head_tris {x y z : Str} {px py pz pt : Pos} {x1} {I l : Addr} {ds : List PyData} (hh : A.handled = none) (hx : isLoc env x) (hy : isLoc env y) (hz : isLoc env z) (hp : isFun env) (hds : ∀ d ∈ ds, ∃ a b c, d = .tuple [a, b, c]) :
    Head prog w A g dr os K mg mb env (.Tuple [.Name x px, .Name y py, .Name z pz] x1 pt) (.ref I) (fun h => (MO.ld ds).Is prog w h l) (lstMo I l) ds.length (triRel x y z ds) := by
  intro i h₀ m mu fs h tk B Z hi T S hZ hB
  obtain ⟨vs, n, e0, r⟩ := T
  have hT' : h.IsList l vs.toArray := lobj_isList e0
  have hit : h.IsListIter I l i := (S.mo (.head _) : (MO.itr _ _).Is prog w h I)
  have hl := r.length
  rcases Nat.lt_or_eq_of_le hi with hlt | rfl
  · obtain ⟨v, hv⟩ : ∃ v, vs[i]? = some v := ⟨vs[i], by simp [hl, hlt]⟩
    obtain ⟨d, hd, tv⟩ := r.getV hv
    obtain ⟨d₁, d₂, d₃, rfl⟩ := hds d (List.mem_of_getElem? hd)
    refine wpAny_pyNext_list_item hit hT' (by simpa using hv) fun h' hit' hs' => ?_
    have S' : St prog w K mg mb h₀ env.locals m (lstMo I l (i + 1) ++ mu) fs h' := S.turn (mu₁ := lstMo I l i) (fun b o hb e => hs'.extBut b o (fun q => hb (by simp [q])) e)
      (fun p hp => by rw [List.mem_singleton.mp hp]; exact ⟨hit', by simp⟩) (by simp)
    have tv' : TD h' v (.tuple [d₁, d₂, d₃]) := tv.mono (S.tle fun b o _ hb e => hs'.extBut b o (fun q => hb (by simp [q])) e)
    obtain ⟨q, v₁, v₂, v₃, rfl, hq, t1, t2, t3⟩ := triShape tv'
    refine wpAny_letOwnedTupleGo_listiter hit' ?_
    refine assign3 hh hx hy hz hp (((S'.fact t3).fact t2).fact t1) hq fun h₂ tk₂ S₂ => ?_
    exact hB hlt _ [(v₁, d₁), (v₂, d₂), (v₃, d₃)] _ _ ⟨v₁, v₂, v₃, d₁, d₂, d₃, hd, rfl, rfl⟩ S₂
  · refine wpAny_pyNext_list_end hh hit hT' (by simp [hl]) fun h' hs' => ?_
    exact hZ rfl _ _ (S.turn (mu₁ := lstMo I l ds.length) (mu₂ := []) (fun b o hb e => hs' b o (fun q => hb (by simp [q])) e) (fun p hp => nomatch hp) (by simp))

/-! ### range -/
noncomputable abbrev rngObj (x left step : Int) : Obj := { cls := .type "range_iterator", dict := none, data := .fields #[rawInt x, rawInt left, rawInt step], slots := #[] }
theorem rng_notTup {x left step : Int} : (rngObj x left step).cls ≠ .type "tuple" := by
  show Value.type "range_iterator" ≠ Value.type "tuple"
  decide
noncomputable abbrev rngMo (I : Addr) (a c : Int) (N : Nat) (i : Nat) : List (Addr × MO) := [(I, .obj (rngObj (a + c * i) ((N : Int) - i) c))]
noncomputable abbrev rngRel (x : Str) (a c : Int) (i : Nat) (b : List (Str × Value)) (f : List (Value × PyData)) : Prop := ∃ t, b = [(x, .int (a + c * i) t)] ∧ f = []
theorem head_rng {x : Str} {p : Pos} {I : Addr} {a c : Int} {N : Nat} (hh : A.handled = none) (hx : isLoc env x) (hp : isFun env) :
    Head prog w A g dr os K mg mb env (.Name x p) (.ref I) (fun _ => True) (rngMo I a c N) N (rngRel x a c) := by
  intro i h₀ m mu fs h tk B Z hi _ S hZ hB
  have hit : IsRangeIter h I (a + c * i) ((N : Int) - i) c := (S.mo (.head _) : (MO.obj _).Is prog w h I).1
  rcases Nat.lt_or_eq_of_le hi with hlt | rfl
  · refine wpAny_pyNext_range_item hit (by omega) fun h' hit' hs' => ?_
    have e1 : a + c * (i : Int) + c = a + c * ((i + 1 : Nat) : Int) := by push_cast; rw [Int.mul_add]; omega
    have e2 : (N : Int) - i - 1 = (N : Int) - ((i + 1 : Nat) : Int) := by push_cast; omega
    rw [e1, e2] at hit'
    have S' : St prog w K mg mb h₀ env.locals m (rngMo I a c N (i + 1) ++ mu) fs h' := S.turn (mu₁ := rngMo I a c N i) (fun b o hb e => hs'.extBut b o (fun q => hb (by simp [q])) e)
      (fun p hp => by rw [List.mem_singleton.mp hp]; exact ⟨⟨hit', rng_notTup⟩, by simp⟩) (by simp)
    exact bind1 (f := []) hx hp S' fun h₂ tk₂ S₂ => hB hlt _ [] _ _ ⟨_, rfl, rfl⟩ S₂
  · refine wpAny_pyNext_range_end hh hit (by omega) fun h' hs' => ?_
    exact hZ rfl _ _ (S.turn (mu₁ := rngMo I a c i i) (mu₂ := []) (fun b o hb e => hs' b o (fun q => hb (by simp [q])) e) (fun p hp => nomatch hp) (by simp))

/-! ### reversed list -/
noncomputable abbrev revMo (I l : Addr) (N : Nat) (i : Nat) : List (Addr × MO) := [(I, .itr "list_reverseiterator" #[.ref l, rawInt ((N : Int) - 1 - i)])]
theorem head_rev {x : Str} {p : Pos} {I l : Addr} {ds : List PyData} (hh : A.handled = none) (hx : isLoc env x) (hp : isFun env) :
    Head prog w A g dr os K mg mb env (.Name x p) (.ref I) (fun h => (MO.ld ds).Is prog w h l) (revMo I l ds.length) ds.length (tdRel x ds.reverse) := by
  intro i h₀ m mu fs h tk B Z hi T S hZ hB
  obtain ⟨vs, n, e0, r⟩ := T
  have hT' : h.IsList l vs.toArray := lobj_isList e0
  have hit0 : h.IsRevIter I l ((ds.length : Int) - 1 - i) := (S.mo (.head _) : (MO.itr _ _).Is prog w h I)
  have hl := r.length
  rcases Nat.lt_or_eq_of_le hi with hlt | rfl
  · obtain ⟨v, hv⟩ : ∃ v, vs[ds.length - 1 - i]? = some v := ⟨vs[ds.length - 1 - i]'(by omega), by simp⟩
    obtain ⟨d, hd, tv⟩ := r.getV hv
    have e1 : (ds.length : Int) - 1 - i = ((ds.length - 1 - i : Nat) : Int) := by omega
    have hit := hit0
    rw [e1] at hit
    refine wpAny_pyNext_rev_item hit hT' (by simpa using hv) fun h' hit' hs' => ?_
    have e2 : ((ds.length - 1 - i : Nat) : Int) - 1 = (ds.length : Int) - 1 - ((i + 1 : Nat) : Int) := by omega
    rw [e2] at hit'
    have S' : St prog w K mg mb h₀ env.locals m (revMo I l ds.length (i + 1) ++ mu) fs h' := S.turn (mu₁ := revMo I l ds.length i) (fun b o hb e => hs'.extBut b o (fun q => hb (by simp [q])) e)
      (fun p hp => by rw [List.mem_singleton.mp hp]; exact ⟨hit', by simp⟩) (by simp)
    have tv' : TD h' v d := tv.mono (S.tle fun b o _ hb e => hs'.extBut b o (fun q => hb (by simp [q])) e)
    exact bind1 (f := [(v, d)]) hx hp (S'.fact tv') fun h₂ tk₂ S₂ => hB hlt _ [(v, d)] _ _ ⟨v, d, by rw [List.getElem?_reverse (by omega)]; exact hd, rfl, rfl⟩ S₂
  · have e1 : (ds.length : Int) - 1 - (ds.length : Nat) = -1 := by omega
    rw [e1] at hit0
    refine wpAny_pyNext_rev_end hh hit0 fun h' hs' => ?_
    exact hZ rfl _ _ (S.turn (mu₁ := revMo I l ds.length ds.length) (mu₂ := []) (fun b o hb e => hs' b o (fun q => hb (by simp [q])) e) (fun p hp => nomatch hp) (by simp))
end
section
variable {prog : Program} {w : World} {A : Around} {E : Value → Shared → Prop} {s : Shared}

/-! ## enumerate over a tuple -/
theorem meets_enum_newT (t : Addr) (items : Array Value) (n : Nat) :
    Meets (Builtin.«enumerate.__new__» ⟨[.type "enumerate", .ref t], []⟩) (fun _ R s => s.heap.get? t = some { cls := .type "tuple", dict := none, data := .seq items n, slots := #[] } ∧
      R (.ok (.ret (.ref (s.heap.push { cls := .type "tuple_iterator", data := .fields #[.ref t, .int 0 0] }).objs.size)))
        { s with heap := (s.heap.push { cls := .type "tuple_iterator", data := .fields #[.ref t, .int 0 0] }).push { cls := .type "enumerate", data := .fields #[.none, .bool false, .ref s.heap.objs.size, rawInt 0, .none, .none] } }) :=
  .of_wp fun prog w A R s h => by
    obtain ⟨hp, g, d, tk, os⟩ := s; obtain ⟨hl, h⟩ := h
    have hsub := sub_enumerate
    have hT : Heap.IsTuple (Shared.heap ⟨hp, g, d, tk, os⟩) t items := ⟨_, hl, rfl, n, rfl⟩
    wp_walk using AutoSeq1.wpAny_loadPart' hl
    refine wpAny_stack_any fun st => wpAny_pure ?_
    split
    · rename_i c _ _ _ _ _
      cases (c == Value.type "enumerate")
      all_goals
        wp_walk using AutoSeq1.wpAny_loadPart' hl, wpAny_pyIter_tuple hT
        exact ⟨_, rfl, h⟩
    · wp_walk using AutoSeq1.wpAny_loadPart' hl, wpAny_pyIter_tuple hT
      exact ⟨_, rfl, h⟩

theorem call_enumT {t : Addr} {items : Array Value} {n : Nat} {Q : Value → Shared → Prop} (hT : s.heap.get? t = some { cls := .type "tuple", dict := none, data := .seq items n, slots := #[] })
    (h : ∀ h', IsEnum h' (s.heap.objs.size + 1) s.heap.objs.size 0 .none → h'.IsTupleIter s.heap.objs.size t 0 → h'.objs.size = s.heap.objs.size + 2 → Le s.heap h' → Q (.ref (s.heap.objs.size + 1)) { s with heap := h' }) :
    wpAny (model prog w) A (call (.type "enumerate") [.ref t]) Q E s := by
  refine callType_new F.called_enumerate (by decide) (F.typeCall_enumerate_1 _) (F.newCall_enumerate_1 _) (fun obj => F.args_object_init_2 obj _) F.entry_enumerate_new (meets_enum_newT t items n) ⟨hT, ?_⟩
  generalize hi : s.heap.push { cls := .type "tuple_iterator", data := .fields #[.ref t, .int 0 0] } = h₁
  have hz : h₁.objs.size = s.heap.objs.size + 1 := by rw [← hi, Heap.size_push]
  have gi : h₁.get? s.heap.objs.size = some { cls := .type "tuple_iterator", data := .fields #[.ref t, .int 0 0] } := by rw [← hi]; exact Heap.get?_push_size _ rfl
  have he : (h₁.push { cls := .type "enumerate", data := .fields #[.none, .bool false, .ref s.heap.objs.size, rawInt 0, .none, .none] }).get? h₁.objs.size = some { cls := .type "enumerate", data := .fields #[.none, .bool false, .ref s.heap.objs.size, rawInt 0, .none, .none] } := Heap.get?_push_size _ rfl
  refine ⟨⟨_, he, rfl⟩, ?_⟩
  rw [hz] at he ⊢
  exact h _ he ⟨_, Heap.get?_push_of_some _ gi, rfl, rfl⟩ (by rw [Heap.size_push, hz]) fun b o x => Heap.get?_push_of_some _ (hi ▸ Heap.get?_push_of_some _ x)

theorem nextOfT_item {it t : Addr} {i : Nat} {items} {x : Value} {Q : Value → Shared → Prop} (hit : s.heap.IsTupleIter it t i) (ht : s.heap.IsTuple t items) (hx : items[i]? = some x)
    (hQ : ∀ h', h'.IsTupleIter it t (i + 1) → Heap.SameBut it s.heap h' → Q x { s with heap := h' }) : wpAny (model prog w) A (Builtin.SmallTypes.nextOf (.ref it)) Q E s := by
  obtain ⟨o, ho, hc, hd⟩ := id hit
  obtain ⟨ot, hot, _, nt, hdt⟩ := ht
  unfold Builtin.SmallTypes.nextOf
  refine wpAny_bind (wpAny_callSpecial?_slot (name := Str.ofString "__next__") hit.typeIs F.slot_tuple_iterator_next
    (wpAny_call_entry F.slot_tuple_iterator_next hit.typeIs F.entry_tuple_iterator_next ?_ (F.args_tuple_iterator_next_1 _)))
  show wpAny _ _ (field (.ref it) 0 >>= _) _ _ s
  refine wpAny_bind (wpAny_field ho hd (x := .ref t) rfl ?_)
  show wpAny _ _ (if (Value.ref t == Value.none) = true then _ else _) _ _ s
  rw [if_neg (show ¬ ((Value.ref t == Value.none) = true) from Bool.false_ne_true)]
  show wpAny _ _ (field (.ref it) 1 >>= _) _ _ s
  refine wpAny_bind (wpAny_field ho hd (x := .int i 0) rfl ?_)
  show wpAny _ _ (seqItems? (.ref t) >>= _) _ _ s
  refine wpAny_bind (wpAny_seqItems hot hdt ?_)
  simp only [Int.toNat_natCast, hx]
  refine wpAny_bind (wpAny_setField ho hd (by simp) (wpAny_pure ⟨x, rfl, wpAny_pure (hQ _ ?_ (Heap.SameBut.update ..))⟩))
  exact ⟨_, Heap.get?_update_self _ ho (Obj.isFreed_of_fields (Obj.data_mapFields hd _)), (Obj.cls_mapFields ..).trans hc, by rw [Obj.data_mapFields hd]; simp [rawInt]⟩

theorem nextOfT_end {it t : Addr} {i : Nat} {items} {Q : Value → Shared → Prop} (hh : A.handled = none) (hit : s.heap.IsTupleIter it t i) (ht : s.heap.IsTuple t items) (hx : items[i]? = none)
    (hE : ∀ h' e, Heap.ExtBut it s.heap h' → (∃ o, h'.get? e = some o ∧ o.cls = .type "StopIteration") → E (.ref e) { s with heap := h' }) : wpAny (model prog w) A (Builtin.SmallTypes.nextOf (.ref it)) Q E s := by
  obtain ⟨o, ho, hc, hd⟩ := id hit
  obtain ⟨ot, hot, _, nt, hdt⟩ := ht
  unfold Builtin.SmallTypes.nextOf
  refine wpAny_bind (wpAny_callSpecial?_slot (name := Str.ofString "__next__") hit.typeIs F.slot_tuple_iterator_next
    (wpAny_call_entry F.slot_tuple_iterator_next hit.typeIs F.entry_tuple_iterator_next ?_ (F.args_tuple_iterator_next_1 _)))
  show wpAny _ _ (field (.ref it) 0 >>= _) _ _ s
  refine wpAny_bind (wpAny_field ho hd (x := .ref t) rfl ?_)
  show wpAny _ _ (if (Value.ref t == Value.none) = true then _ else _) _ _ s
  rw [if_neg (show ¬ ((Value.ref t == Value.none) = true) from Bool.false_ne_true)]
  show wpAny _ _ (field (.ref it) 1 >>= _) _ _ s
  refine wpAny_bind (wpAny_field ho hd (x := .int i 0) rfl ?_)
  show wpAny _ _ (seqItems? (.ref t) >>= _) _ _ s
  refine wpAny_bind (wpAny_seqItems hot hdt ?_)
  simp only [Int.toNat_natCast, hx]
  refine wpAny_bind (wpAny_rule (wpAny_bind (wpAny_setField ho hd (by simp) ?_)))
  show wpAny _ _ (newExc (.type "StopIteration") [] >>= _) _ _ _
  refine wpAny_bind ?_
  simp only [newExc, newTuple]
  refine wpAny_bind (wpAny_newObj_type ?_ (by size_fits))
  refine wpAny_bind (m := firstArgMember _ _) (wpAny_of_eq (a := Value.none) (by first | rfl | (simp only [firstArgMember]; rfl)) ?_)
  refine wpAny_newObj_type ?_ (by size_fits)
  simp only [raiseNew]
  refine wpAny_bind (wpAny_handled ?_)
  first | rw [show A.in1.handled = none from hh] | rw [hh]
  refine wpAny_bind (wpAny_pure (wpAny_throw ?_))
  exact hE _ _ (((Heap.SameBut.update ..).extBut.push _).push _) ⟨_, Heap.get?_push_size _ rfl, rfl⟩

/-- one step of enumerate, whatever it walks -/
theorem enum_step {e it : Addr} {i : Int} {x old : Value} {Q : Option Value → Shared → Prop} {P : Heap → Prop} (he : IsEnum s.heap e it i old) (hne : e ≠ it)
    (nx : ∀ (A : Around) (R E : Value → Shared → Prop), (∀ h', P h' → Heap.SameBut it s.heap h' → R x { s with heap := h' }) → wpAny (model prog w) A (Builtin.SmallTypes.nextOf (.ref it)) R E s)
    (hQ : ∀ h₁ h', P h₁ → IsEnumOut h' e it (i + 1) x s.heap.objs.size → (∀ b o, b ≠ e → h₁.get? b = some o → h'.get? b = some o) →
      h'.get? s.heap.objs.size = some { cls := .type "tuple", data := .seq #[.int i s.toks, x] } → h'.objs.size = s.heap.objs.size + 1 →
      (∀ b o, b ≠ e → b ≠ it → s.heap.get? b = some o → h'.get? b = some o) → Q (some (.ref s.heap.objs.size)) { s with heap := h', toks := s.toks + 1 }) :
    wpAny (model prog w) A (pyNext (.ref e)) Q E s := by
  obtain ⟨hp, g, d, tk, os⟩ := s
  have hT : Shared.TypeIs ⟨hp, g, d, tk, os⟩ (.ref e) "enumerate" := ⟨_, he, rfl⟩
  unfold pyNext
  refine wpAny_bind (wpAny_attempt (wpAny_callSpecial?_slot (name := Str.ofString "__next__") hT F.slot_enumerate_next
    (wpAny_call_entry F.slot_enumerate_next hT F.entry_enumerate_next ?_ (F.args_enumerate_next_1 _))))
  show wpAny _ _ (field (.ref e) 2 >>= _) _ _ _
  refine wpAny_bind (wpAny_field he rfl (x := .ref it) rfl ?_)
  refine wpAny_bind (nx _ _ _ fun h₁ hP hs₁ => ?_)
  replace hs₁ : Heap.SameBut it hp h₁ := hs₁
  have he₁ : IsEnum h₁ e it i old := (hs₁.2 e hne).trans he
  show wpAny _ _ (field (.ref e) 3 >>= _) _ _ ⟨h₁, g, d, tk, os⟩
  refine wpAny_bind (wpAny_field he₁ rfl (x := rawInt i) rfl ?_)
  show wpAny _ _ (field (.ref e) 4 >>= _) _ _ ⟨h₁, g, d, tk, os⟩
  refine wpAny_bind (wpAny_field he₁ rfl (x := .none) rfl ?_)
  show wpAny _ _ (mkInt i >>= _) _ _ ⟨h₁, g, d, tk, os⟩
  refine wpAny_bind (wpAny_mkInt ?_)
  show wpAny _ _ (setField (.ref e) 3 (rawInt (i + 1)) >>= _) _ _ ⟨h₁, g, d, tk + 1, os⟩
  refine wpAny_bind (wpAny_setField_rec he₁ (by simp) fun h₂ he₂ hs₂ => ?_)
  replace hs₂ : Heap.SameBut e h₁ h₂ := hs₂
  show wpAny _ _ (setField (.ref e) 4 .none >>= _) _ _ ⟨h₂, g, d, tk + 1, os⟩
  refine wpAny_bind (wpAny_setField_rec he₂ (by simp) fun h₃ he₃ hs₃ => ?_)
  replace hs₃ : Heap.SameBut e h₂ h₃ := hs₃
  replace he₃ : IsEnum h₃ e it (i + 1) old := he₃
  have hs13 : ∀ b o, b ≠ e → h₁.get? b = some o → h₃.get? b = some o := fun b o hb x => hs₃.extBut b o hb (hs₂.extBut b o hb x)
  have z3 : h₃.objs.size = hp.objs.size := by rw [hs₃.1, hs₂.1, hs₁.1]
  have hlt : e < hp.objs.size := Heap.lt_size he
  clear hs₂ hs₃ he₂ he₁ he hT
  show wpAny _ _ (newTuple [.int i tk, x] >>= _) _ _ ⟨h₃, g, d, tk + 1, os⟩
  refine wpAny_bind (wpAny_newTuple ?_)
  have he₄ : IsEnum (h₃.push { cls := .type "tuple", data := .seq #[.int i tk, x] }) e it (i + 1) old := Heap.get?_push_of_some _ he₃
  have ht₄ : (h₃.push { cls := .type "tuple", data := .seq #[.int i tk, x] }).get? hp.objs.size = some { cls := .type "tuple", data := .seq #[.int i tk, x] } := by rw [← z3]; exact Heap.get?_push_size _ rfl
  have hs14 : ∀ b o, b ≠ e → h₁.get? b = some o → (h₃.push { cls := .type "tuple", data := .seq #[.int i tk, x] }).get? b = some o := fun b o hb x => Heap.get?_push_of_some _ (hs13 b o hb x)
  have z4 : (h₃.push { cls := .type "tuple", data := .seq #[.int i tk, x] }).objs.size = hp.objs.size + 1 := by rw [Heap.size_push, z3]
  show wpAny _ _ (Builtin.SmallTypes.ownedTupleIsFree (.ref e) >>= _) _ _ ⟨h₃.push { cls := .type "tuple", data := .seq #[.int i tk, x] }, g, d, tk + 1, os⟩
  rw [z3]
  generalize h₃.push { cls := .type "tuple", data := .seq #[.int i tk, x] } = h₄ at he₄ ht₄ hs14 z4 ⊢
  refine wpAny_bind ?_
  unfold Builtin.SmallTypes.ownedTupleIsFree
  refine wpAny_bind (wpAny_field he₄ rfl (x := .none) rfl (wpAny_pure ?_))
  simp only [if_true]
  refine wpAny_bind (wpAny_rule ?_)
  refine wpAny_bind (wpAny_field he₄ rfl (x := old) rfl ?_)
  refine wpAny_bind (wpAny_setField_rec he₄ (by simp) fun h₅ he₅ hs₅ => ?_)
  replace hs₅ : Heap.SameBut e h₄ h₅ := hs₅
  show wpAny _ _ (Builtin.SmallTypes.ownedTupleHandOut (.ref e) (.ref hp.objs.size) >>= _) _ _ ⟨h₅, g, d, tk + 1, os⟩
  refine wpAny_bind ?_
  unfold Builtin.SmallTypes.ownedTupleHandOut
  refine wpAny_bind (wpAny_setField_rec he₅ (by simp) fun h₆ he₆ hs₆ => ?_)
  replace hs₆ : Heap.SameBut e h₅ h₆ := hs₆
  refine wpAny_setField_rec he₆ (by simp) fun h₇ he₇ hs₇ => ?_
  replace hs₇ : Heap.SameBut e h₆ h₇ := hs₇
  replace he₇ : IsEnumOut h₇ e it (i + 1) x hp.objs.size := he₇
  have hs47 : ∀ b o, b ≠ e → h₄.get? b = some o → h₇.get? b = some o := fun b o hb x => hs₇.extBut b o hb (hs₆.extBut b o hb (hs₅.extBut b o hb x))
  refine wpAny_bind (wpAny_letGo (wpAny_pure ⟨_, rfl, wpAny_pure ?_⟩))
  exact hQ h₁ h₇ hP he₇ (fun b o hb x => hs47 b o hb (hs14 b o hb x)) (hs47 _ _ (Nat.ne_of_gt hlt) ht₄) (by rw [hs₇.1, hs₆.1, hs₅.1, z4]) fun b o hb hb' x => hs47 b o hb (hs14 b o hb (hs₁.extBut b o hb' x))

theorem enum_endT {e it t : Addr} {i : Nat} {items : Array Value} {old : Value} {Q : Option Value → Shared → Prop} (hh : A.handled = none) (he : IsEnum s.heap e it i old) (hit : s.heap.IsTupleIter it t i) (ht : s.heap.IsTuple t items) (hx : items[i]? = none)
    (hQ : ∀ h', Heap.ExtBut it s.heap h' → Q none { s with heap := h' }) : wpAny (model prog w) A (pyNext (.ref e)) Q E s := by
  have hT : s.TypeIs (.ref e) "enumerate" := ⟨_, he, rfl⟩
  unfold pyNext
  refine wpAny_bind (wpAny_attempt (wpAny_callSpecial?_slot (name := Str.ofString "__next__") hT F.slot_enumerate_next
    (wpAny_call_entry F.slot_enumerate_next hT F.entry_enumerate_next ?_ (F.args_enumerate_next_1 _))))
  show wpAny _ _ (field (.ref e) 2 >>= _) _ _ _
  refine wpAny_bind (wpAny_field he rfl (x := .ref it) rfl ?_)
  refine wpAny_bind (nextOfT_end hh hit ht hx fun h' x he' hx' => ?_)
  obtain ⟨o, ho, hc⟩ := hx'
  exact wpAny_bind (wpAny_isInstance (T := "StopIteration") (b := true) ⟨o, ho, hc⟩ isSubtype_stop (wpAny_pure (hQ _ he')))
end

section
variable {prog : Program} {w : World} {K : Frag} {mg mb : Str → Option Value} {h₀ h h' : Heap} {L : Addr} {m m' : Str → Option Value} {mu mu' mu₁ mu₂ : List (Addr × MO)} {fs fs' : List (Value × PyData)}
  {A : Around} {E : Value → Shared → Prop} {g : Array GenState} {dr : Drawn} {os : OsState} {tk : Nat} {env : Env}

/-! ### the heads -/
noncomputable abbrev enuMo (e it t : Addr) (i : Nat) : List (Addr × MO) := [(e, .enum it i), (it, .itr "tuple_iterator" #[.ref t, .int i 0])]
noncomputable abbrev enuLMo (e it t : Addr) (i : Nat) : List (Addr × MO) := [(e, .enum it i), (it, .itr "list_iterator" #[.ref t, .int i 0])]
noncomputable abbrev enuRel (x y : Str) (ds : List PyData) (i : Nat) (b : List (Str × Value)) (f : List (Value × PyData)) : Prop := ∃ t v d, ds[i]? = some d ∧ b = [(x, .int i t), (y, v)] ∧ f = [(v, d)]
noncomputable abbrev enuRawRel (x y : Str) (vs : List Value) (i : Nat) (b : List (Str × Value)) (f : List (Value × PyData)) : Prop := ∃ t v, vs[i]? = some v ∧ b = [(x, .int i t), (y, v)] ∧ f = []

theorem head_enumT {x y : Str} {px py pt : Pos} {x1} {e it t : Addr} {ds : List PyData} (hh : A.handled = none) (hx : isLoc env x) (hy : isLoc env y) (hp : isFun env) :
    Head prog w A g dr os K mg mb env (.Tuple [.Name x px, .Name y py] x1 pt) (.ref e) (fun h => TD h (.ref t) (.tuple ds)) (enuMo e it t) ds.length (enuRel x y ds) := by
  intro i h₀ m mu fs h tk B Z hi T S hZ hB
  obtain ⟨t', vs, ht, hT, r⟩ := T.isTup
  cases ht
  have hT' : h.IsTuple t vs.toArray := hT
  obtain ⟨old, he⟩ := (S.mo (.head _) : (MO.enum it i).Is prog w h e)
  have hit : h.IsTupleIter it t i := (S.mo (.tail _ (.head _)) : (MO.itr _ _).Is prog w h it)
  have hne : e ≠ it := fun q => by have := S.cx.nd; simp [q] at this
  have hl := r.length
  rcases Nat.lt_or_eq_of_le hi with hlt | rfl
  · obtain ⟨v, hv⟩ : ∃ v, vs[i]? = some v := ⟨vs[i], by simp [hl, hlt]⟩
    obtain ⟨d, hd, tv⟩ := r.getV hv
    refine enum_step (P := fun h' => h'.IsTupleIter it t (i + 1)) he hne (fun A R E hR => nextOfT_item hit hT' (by simpa using hv) hR) fun h₁ h₂ hP ho hs₁ ht₂ hz₂ hs₂ => ?_
    refine wpAny_letOwnedTupleGo_enum ho fun h₃ he₃ hs₃ => ?_
    replace hs₃ : Heap.SameBut e h₂ h₃ := hs₃
    have hit₃ : h₃.IsTupleIter it t (i + 1) := by obtain ⟨o, go, ro⟩ := hP; exact ⟨o, hs₃.extBut _ _ (Ne.symm hne) (hs₁ _ _ (Ne.symm hne) go), ro⟩
    have hs : ∀ b o, b ∉ (enuMo e it t i).map (·.1) → h.get? b = some o → h₃.get? b = some o := fun b o hb q => by
      simp at hb
      exact hs₃.extBut _ _ hb.1 (hs₂ _ _ hb.1 hb.2 q)
    have S' : St prog w K mg mb h₀ env.locals m (enuMo e it t (i + 1) ++ mu) fs h₃ := S.turn (mu₁ := enuMo e it t i) (mu₂ := enuMo e it t (i + 1)) hs
      (fun p hp => by
        rcases List.mem_cons.mp hp with rfl | hp
        · exact ⟨⟨_, by simpa using he₃⟩, by simp⟩
        · rw [List.mem_singleton.mp hp]; exact ⟨hit₃, by simp⟩) (by simp [hne])
    have tv' : TD h₃ v d := tv.mono (S.tle fun b o _ hb q => hs b o (fun q' => hb (by rw [List.map_append]; exact List.mem_append_left _ q')) q)
    have hlt' : e < h.objs.size := Heap.lt_size he
    have ht₃ : h₃.IsTuple h.objs.size #[.int i tk, v] := ⟨_, hs₃.extBut _ _ (Nat.ne_of_gt hlt') ht₂, rfl, _, rfl⟩
    refine assign2 hh hx hy hp (S'.fact tv') ht₃ fun h₄ tk₄ S₄ => ?_
    exact hB hlt _ [(v, d)] _ _ ⟨tk, v, d, hd, rfl, rfl⟩ S₄
  · refine enum_endT hh he hit hT' (by simp [hl]) fun h' hs' => ?_
    exact hZ rfl _ _ (S.turn (mu₁ := enuMo e it t ds.length) (mu₂ := []) (fun b o hb q => hs' b o (fun q' => hb (by simp [q'])) q) (fun p hp => nomatch hp) (by simp))

theorem head_enumRaw {x y : Str} {px py pt : Pos} {x1} {e it l : Addr} {vs : List Value} (hh : A.handled = none) (hx : isLoc env x) (hy : isLoc env y) (hp : isFun env) :
    Head prog w A g dr os K mg mb env (.Tuple [.Name x px, .Name y py] x1 pt) (.ref e) (fun h => h.IsList l vs.toArray) (enuLMo e it l) vs.length (enuRawRel x y vs) := by
  intro i h₀ m mu fs h tk B Z hi hT' S hZ hB
  obtain ⟨old, he⟩ := (S.mo (.head _) : (MO.enum it i).Is prog w h e)
  have hit : h.IsListIter it l i := (S.mo (.tail _ (.head _)) : (MO.itr _ _).Is prog w h it)
  have hne : e ≠ it := fun q => by have := S.cx.nd; simp [q] at this
  rcases Nat.lt_or_eq_of_le hi with hlt | rfl
  · obtain ⟨v, hv⟩ : ∃ v, vs[i]? = some v := ⟨vs[i], by simp [hlt]⟩
    refine enum_step (P := fun h' => h'.IsListIter it l (i + 1)) he hne (fun A R E hR => wpAny_nextOf_list_item hit hT' (by simpa using hv) hR) fun h₁ h₂ hP ho hs₁ ht₂ hz₂ hs₂ => ?_
    refine wpAny_letOwnedTupleGo_enum ho fun h₃ he₃ hs₃ => ?_
    replace hs₃ : Heap.SameBut e h₂ h₃ := hs₃
    have hit₃ : h₃.IsListIter it l (i + 1) := by obtain ⟨o, go, ro⟩ := hP; exact ⟨o, hs₃.extBut _ _ (Ne.symm hne) (hs₁ _ _ (Ne.symm hne) go), ro⟩
    have hs : ∀ b o, b ∉ (enuLMo e it l i).map (·.1) → h.get? b = some o → h₃.get? b = some o := fun b o hb q => by
      simp at hb
      exact hs₃.extBut _ _ hb.1 (hs₂ _ _ hb.1 hb.2 q)
    have S' : St prog w K mg mb h₀ env.locals m (enuLMo e it l (i + 1) ++ mu) fs h₃ := S.turn (mu₁ := enuLMo e it l i) (mu₂ := enuLMo e it l (i + 1)) hs
      (fun p hp => by
        rcases List.mem_cons.mp hp with rfl | hp
        · exact ⟨⟨_, by simpa using he₃⟩, by simp⟩
        · rw [List.mem_singleton.mp hp]; exact ⟨hit₃, by simp⟩) (by simp [hne])
    have hlt' : e < h.objs.size := Heap.lt_size he
    have ht₃ : h₃.IsTuple h.objs.size #[.int i tk, v] := ⟨_, hs₃.extBut _ _ (Nat.ne_of_gt hlt') ht₂, rfl, _, rfl⟩
    refine assign2 hh hx hy hp S' ht₃ fun h₄ tk₄ S₄ => ?_
    exact hB hlt _ [] _ _ ⟨tk, v, hv, rfl, rfl⟩ S₄
  · refine wpAny_pyNext_enum_end hh he hit hT' (by simp) fun h' hs' => ?_
    exact hZ rfl _ _ (S.turn (mu₁ := enuLMo e it l vs.length) (mu₂ := []) (fun b o hb q => hs' b o (fun q' => hb (by simp [q'])) q) (fun p hp => nomatch hp) (by simp))
end
section
variable {prog : Program} {w : World} {K : Frag} {mg mb : Str → Option Value} {h₀ h h' : Heap} {L : Addr} {m m' : Str → Option Value} {mu mu' mu₁ mu₂ : List (Addr × MO)} {fs fs' : List (Value × PyData)}
  {A : Around} {E : Value → Shared → Prop} {g : Array GenState} {dr : Drawn} {os : OsState} {tk : Nat} {env : Env}

/-! ## walkers made -/
theorem r_iterTup {t : Addr} {ds : List PyData} {Q : Value → Shared → Prop} (S : St prog w K mg mb h₀ L m mu fs h) (T : TD h (.ref t) (.tuple ds))
    (k : ∀ I h' tk', St prog w K mg mb h₀ L m (tupMo I t 0 ++ mu) fs h' → Q (.ref I) ⟨h', g, dr, tk', os⟩) : wpAny (model prog w) A (pyIter (.ref t)) Q E ⟨h, g, dr, tk, os⟩ := by
  obtain ⟨t', vs, ht, hT, r⟩ := T.isTup
  cases ht
  exact wpAny_pyIter_tuple hT (k _ _ _ (S.new (mo := .itr "tuple_iterator" #[.ref t, .int 0 0]) ⟨_, Heap.get?_push_size _ rfl, rfl, rfl⟩))
theorem r_iterList {l : Addr} {xs : Array Value} {Q : Value → Shared → Prop} (S : St prog w K mg mb h₀ L m mu fs h) (T : h.IsList l xs)
    (k : ∀ I h' tk', Le h h' → St prog w K mg mb h₀ L m (lstMo I l 0 ++ mu) fs h' → Q (.ref I) ⟨h', g, dr, tk', os⟩) : wpAny (model prog w) A (pyIter (.ref l)) Q E ⟨h, g, dr, tk, os⟩ :=
  wpAny_pyIter_list T (k _ _ _ (Le.push _ _) (S.new (mo := .itr "list_iterator" #[.ref l, .int 0 0]) ⟨_, Heap.get?_push_size _ rfl, rfl, rfl⟩))
theorem MO.isL {l : Addr} {ds : List PyData} (x : (MO.ld ds).Is prog w h l) : ∃ vs : List Value, h.IsList l vs.toArray ∧ TDs h vs ds := by
  obtain ⟨vs, n, e, r⟩ := x
  exact ⟨vs, lobj_isList e, r⟩

noncomputable abbrev rngO (a b c : Int) (t u v : Tok) : Obj := { cls := .type "range", dict := none, data := .fields #[.int a t, .int b u, .int c v], slots := #[] }
theorem rngO_notTup {a b c : Int} {t u v : Tok} : (rngO a b c t u v).cls ≠ .type "tuple" := by
  show Value.type "range" ≠ Value.type "tuple"
  decide
theorem r_range1 {n : Int} {t : Tok} {Q : Value → Shared → Prop} (S : St prog w K mg mb h₀ L m mu fs h)
    (k : ∀ r t u v h' tk', St prog w K mg mb h₀ L m ((r, .obj (rngO 0 n 1 t u v)) :: mu) fs h' → Q (.ref r) ⟨h', g, dr, tk', os⟩) : wpAny (model prog w) A (call (.type "range") [.int n t]) Q E ⟨h, g, dr, tk, os⟩ :=
  call_range_1 (k _ _ _ _ _ _ (S.new ⟨Heap.get?_push_size _ rfl, rngO_notTup⟩))
theorem r_range3 {a b c : Int} {t u v : Tok} {Q : Value → Shared → Prop} (S : St prog w K mg mb h₀ L m mu fs h) (hc : c ≠ 0) (hp : Builtin.divisionGoesByPylong (b - a) c = false)
    (k : ∀ r h' tk', St prog w K mg mb h₀ L m ((r, .obj (rngO a b c t u v)) :: mu) fs h' → Q (.ref r) ⟨h', g, dr, tk', os⟩) : wpAny (model prog w) A (call (.type "range") [.int a t, .int b u, .int c v]) Q E ⟨h, g, dr, tk, os⟩ :=
  call_range_3 hc (k _ _ _ (S.new ⟨Heap.get?_push_size _ rfl, rngO_notTup⟩)) (.inl hp)
theorem r_iterRng {r : Addr} {a b c : Int} {t u v : Tok} {N : Nat} {Q : Value → Shared → Prop} (S : St prog w K mg mb h₀ L m ((r, .obj (rngO a b c t u v)) :: mu) fs h) (hs : Builtin.Range.small a b c = true) (hN : Builtin.Range.rangeSize a b c = N)
    (k : ∀ I h' tk', St prog w K mg mb h₀ L m (rngMo I a c N 0 ++ mu) fs h' → Q (.ref I) ⟨h', g, dr, tk', os⟩) : wpAny (model prog w) A (pyIter (.ref r)) Q E ⟨h, g, dr, tk, os⟩ := by
  refine wpAny_pyIter_range (S.mo (.head _) : (MO.obj _).Is prog w h r).1 hs (k _ _ _ (S.drop1.new ⟨?_, rng_notTup⟩))
  rw [hN]
  have := Heap.get?_push_size h (o := rngObj (a + c * ((0 : Nat) : Int)) ((N : Int) - ((0 : Nat) : Int)) c) rfl
  simpa using this
theorem small_of {a b c : Int} (ha : a.natAbs < 2 ^ 40) (hb : b.natAbs < 2 ^ 40) (hc : c = 1 ∨ c = -1) : Builtin.Range.small a b c = true := by
  have hf : ∀ x : Int, x.natAbs < 2 ^ 42 → Builtin.Range.rangeFitsLong x = true := fun x hx => by
    unfold Builtin.Range.rangeFitsLong
    simp
    omega
  have hz : (Builtin.Range.rangeSize a b c).natAbs < 2 ^ 42 := by
    unfold Builtin.Range.rangeSize
    rcases hc with rfl | rfl
    · rw [if_pos (by decide)]; split <;> omega
    · rw [if_neg (by decide), show (- -1 : Int) = 1 from rfl]; split <;> omega
  unfold Builtin.Range.small
  rw [hf a (by omega), hf b (by omega), hf c (by omega), hf _ hz]
  rcases hc with rfl | rfl
  · rw [if_pos (by decide), hf (b + (1 - 1)) (by omega)]; simp
  · rw [if_neg (by decide), hf (b + (-1 + 1)) (by omega)]; simp
theorem rsize_up {n : Nat} : Builtin.Range.rangeSize 0 (n : Int) 1 = (n : Int) := by
  unfold Builtin.Range.rangeSize
  simp
  intro h
  omega
theorem rsize_down {n : Nat} : Builtin.Range.rangeSize ((n : Int) - 1) (-1) (-1) = (n : Int) := by
  unfold Builtin.Range.rangeSize
  simp
  intro h
  omega

theorem St.add2 {a₁ a₂ : Addr} {mo₁ mo₂ : MO} (S : St prog w K mg mb h₀ L m mu fs h) (l : Le h h') (i1 : mo₁.Is prog w h' a₁) (i2 : mo₂.Is prog w h' a₂) (z1 : h.objs.size ≤ a₁) (z2 : h.objs.size ≤ a₂) (ne : a₁ ≠ a₂) :
    St prog w K mg mb h₀ L m ((a₁, mo₁) :: (a₂, mo₂) :: mu) fs h' := by
  have S' := S.ext l
  have e0 : ∀ a, h.objs.size ≤ a → h₀.get? a = none := fun a ha => by
    cases q : h₀.get? a with
    | none => rfl
    | some o => exact absurd (Heap.lt_size (S.cx.keep _ _ q)) (Nat.not_lt.mpr ha)
  have hm : ∀ a, h.objs.size ≤ a → a ∉ mu.map (·.1) := fun a ha q => by
    obtain ⟨p, hp, e⟩ := List.mem_map.mp q
    obtain ⟨o, e'⟩ := (S.cx.mus p hp).1.ex
    have := Heap.lt_size e'
    have e2 : p.1 = a := e
    rw [e2] at this; exact absurd this (Nat.not_lt.mpr ha)
  have hL : L < h.objs.size := S.ns.lt
  refine ⟨⟨S'.cx.gd, S'.cx.keep, fun p hp => ?_, ?_, S'.cx.tds⟩, S'.ns, S'.off, fun p hp => ?_⟩
  · rcases List.mem_cons.mp hp with rfl | hp
    · exact ⟨i1, e0 _ z1⟩
    · rcases List.mem_cons.mp hp with rfl | hp
      · exact ⟨i2, e0 _ z2⟩
      · exact S'.cx.mus p hp
  · simp only [List.map_cons, List.nodup_cons, List.mem_cons, not_or]
    exact ⟨⟨ne, hm _ z1⟩, hm _ z2, S.cx.nd⟩
  · rcases List.mem_cons.mp hp with rfl | hp
    · exact Nat.ne_of_gt (Nat.lt_of_lt_of_le hL z1)
    · rcases List.mem_cons.mp hp with rfl | hp
      · exact Nat.ne_of_gt (Nat.lt_of_lt_of_le hL z2)
      · exact S'.ne p hp

theorem r_enumT {t : Addr} {ds : List PyData} {Q : Value → Shared → Prop} (S : St prog w K mg mb h₀ L m mu fs h) (T : TD h (.ref t) (.tuple ds))
    (k : ∀ e it h' tk', St prog w K mg mb h₀ L m (enuMo e it t 0 ++ mu) fs h' → Q (.ref e) ⟨h', g, dr, tk', os⟩) : wpAny (model prog w) A (call (.type "enumerate") [.ref t]) Q E ⟨h, g, dr, tk, os⟩ := by
  obtain ⟨t', vs, n, ht, hT, r⟩ := T.tup_inv
  cases ht
  exact call_enumT hT fun h' he hit hz l => k _ _ _ _ (S.add2 l ⟨_, he⟩ hit (Nat.le_succ _) (Nat.le_refl _) (Nat.succ_ne_self _))
theorem r_enumL {l : Addr} {xs : Array Value} {Q : Value → Shared → Prop} (S : St prog w K mg mb h₀ L m mu fs h) (T : h.IsList l xs)
    (k : ∀ e it h' tk', Le h h' → St prog w K mg mb h₀ L m (enuLMo e it l 0 ++ mu) fs h' → Q (.ref e) ⟨h', g, dr, tk', os⟩) : wpAny (model prog w) A (call (.type "enumerate") [.ref l]) Q E ⟨h, g, dr, tk, os⟩ :=
  call_enumerate_list T fun h' he hit hz l => k _ _ _ _ l (S.add2 l ⟨_, he⟩ hit (Nat.le_succ _) (Nat.le_refl _) (Nat.succ_ne_self _))
theorem r_rev {l : Addr} {ds : List PyData} {Q : Value → Shared → Prop} (S : St prog w K mg mb h₀ L m mu fs h) (x : (MO.ld ds).Is prog w h l)
    (k : ∀ I h' tk', Le h h' → St prog w K mg mb h₀ L m (revMo I l ds.length 0 ++ mu) fs h' → Q (.ref I) ⟨h', g, dr, tk', os⟩) : wpAny (model prog w) A (call (.type "reversed") [.ref l]) Q E ⟨h, g, dr, tk, os⟩ := by
  obtain ⟨vs, n, e, r⟩ := x
  have hl := r.length
  refine call_reversed_list (lobj_isList e) (k _ _ _ (Le.push _ _) (S.new ⟨_, Heap.get?_push_size _ rfl, rfl, ?_⟩))
  simp [revObj, hl]

/-- a walker is its own walker -/
noncomputable def Self (prog : Program) (w : World) (A : Around) (g : Array GenState) (dr : Drawn) (os : OsState) (I : Addr) (muI : List (Addr × MO)) : Prop :=
  ∀ (h' : Heap) (t' : Nat) (Q : Value → Shared → Prop) (E : Value → Shared → Prop), (∀ p ∈ muI, p.2.Is prog w h' p.1) → Q (.ref I) ⟨h', g, dr, t', os⟩ → wpAny (model prog w) A (pyIter (.ref I)) Q E ⟨h', g, dr, t', os⟩
theorem self_list {I t : Addr} {i : Nat} {muF : List (Addr × MO)} : Self prog w A g dr os I (lstMo I t i ++ muF) := fun h' t' Q E hm hq => wpAny_pyIter_listiter (hm _ (.head _) : (MO.itr _ _).Is prog w h' I) hq
theorem self_rng {I : Addr} {a c : Int} {N i : Nat} {muF : List (Addr × MO)} : Self prog w A g dr os I (rngMo I a c N i ++ muF) := fun h' t' Q E hm hq => wpAny_pyIter_rangeiter (hm _ (.head _) : (MO.obj _).Is prog w h' I).1 hq
theorem self_rev {I l : Addr} {N i : Nat} {muF : List (Addr × MO)} : Self prog w A g dr os I (revMo I l N i ++ muF) := fun h' t' Q E hm hq => wpAny_pyIter_revIter (hm _ (.head _) : (MO.itr _ _).Is prog w h' I) hq
theorem self_enu {e it t : Addr} {i : Nat} {muF : List (Addr × MO)} : Self prog w A g dr os e (enuMo e it t i ++ muF) := fun h' t' Q E hm hq => by obtain ⟨old, he⟩ := (hm _ (.head _) : (MO.enum it i).Is prog w h' e); exact wpAny_pyIter_enum he hq
theorem self_enuL {e it t : Addr} {i : Nat} {muF : List (Addr × MO)} : Self prog w A g dr os e (enuLMo e it t i ++ muF) := fun h' t' Q E hm hq => by obtain ⟨old, he⟩ := (hm _ (.head _) : (MO.enum it i).Is prog w h' e); exact wpAny_pyIter_enum he hq
theorem Self.iter {I : Addr} {muI : List (Addr × MO)} (x : Self prog w A g dr os I muI) {Q : Value → Shared → Prop} (S : St prog w K mg mb h₀ L m (muI ++ mu) fs h) (k : Q (.ref I) ⟨h, g, dr, tk, os⟩) : wpAny (model prog w) A (pyIter (.ref I)) Q E ⟨h, g, dr, tk, os⟩ :=
  x _ _ _ _ (fun p hp => (S.cx.mus p (List.mem_append_left _ hp)).1) k

/-- the state after a turn of a comprehension -/
structure Goes (prog : Program) (w : World) (K : Frag) (mg mb : Str → Option Value) (h₀ : Heap) (L : Addr) (g : Array GenState) (dr : Drawn) (os : OsState) (mu : List (Addr × MO)) (fs : List (Value × PyData)) (s : Shared) : Prop where
  it : ∃ m' h' tk', s = ⟨h', g, dr, tk', os⟩ ∧ St prog w K mg mb h₀ L m' mu fs h'
theorem Goes.of (S : St prog w K mg mb h₀ L m mu fs h) : Goes prog w K mg mb h₀ L g dr os mu fs ⟨h, g, dr, tk, os⟩ := ⟨⟨_, _, _, rfl, S⟩⟩

/-! ## the loops on heads -/
theorem r_cl {elt target iter : Expr} {scope : Scope} {pos : Pos} {it : Value} {D : Addr} {src : Heap → Prop} {mo : Nat → List (Addr × MO)} {N : Nat} {Rel : Nat → List (Str × Value) → List (Value × PyData) → Prop} {R : Result → Shared → Prop}
    (H : Head prog w A g dr os K mg mb env target it src mo N Rel) (acc : Nat → MO) (muF : Nat → List (Addr × MO))
    (hsrc : ∀ i m h, i ≤ N → St prog w K mg mb h₀ env.locals m (mo i ++ (D, acc i) :: muF i) fs h → src h)
    (S : St prog w K mg mb h₀ env.locals m (mo 0 ++ (D, acc 0) :: muF 0) fs h)
    (turn : ∀ i, i < N → ∀ b f m h tk, Rel i b f → St prog w K mg mb h₀ env.locals (mB b m) (mo (i + 1) ++ (D, acc i) :: muF i) (f ++ fs) h →
      wpAny (model prog w) A (eval elt env) (fun x s₄ => wpAny (model prog w) A (call (.builtin "list.append") [.ref D, x]) (fun _ s₅ => Goes prog w K mg mb h₀ env.locals g dr os (mo (i + 1) ++ (D, acc (i + 1)) :: muF (i + 1)) fs s₅) noE s₄) noE ⟨h, g, dr, tk, os⟩)
    (done : ∀ m h tk, St prog w K mg mb h₀ env.locals m ((D, acc N) :: muF N) fs h → R (.ok .next) ⟨h, g, dr, tk, os⟩) :
    codeAny (model prog w) A (.compLoop (.ListComp elt [⟨target, iter, [], 0⟩] scope pos) 0 it (.ref D) env) R ⟨h, g, dr, tk, os⟩ := by
  refine r_compLoop (fun n s => ∃ i m h tk, i ≤ N ∧ n = N - i ∧ s = ⟨h, g, dr, tk, os⟩ ∧ St prog w K mg mb h₀ env.locals m (mo i ++ (D, acc i) :: muF i) fs h) ?_ N ⟨0, _, _, _, Nat.zero_le _, rfl, rfl, S⟩
  rintro n s ⟨i, m, h, tk, hi, rfl, rfl, S⟩
  refine H i _ m _ fs h tk _ _ hi (hsrc i m h hi S) S (fun hN h' tk' S' => ?_) fun hlt b f h' tk' hr S' => ?_
  · subst hN; exact done _ _ _ S'
  · refine wpAny_mono (turn i hlt b f m h' tk' hr S') (fun x s₄ h₄ => wpAny_mono h₄ (fun _ s₅ h₅ => ?_) fun _ _ e => e) fun _ _ e => e
    obtain ⟨m', h'', tk'', rfl, S''⟩ := h₅.it
    exact ⟨N - (i + 1), by omega, i + 1, m', h'', tk'', hlt, rfl, rfl, S''⟩

theorem r_clIf {elt target iter c : Expr} {scope : Scope} {pos : Pos} {it : Value} {D : Addr} {src : Heap → Prop} {mo : Nat → List (Addr × MO)} {N : Nat} {Rel : Nat → List (Str × Value) → List (Value × PyData) → Prop} {R : Result → Shared → Prop}
    (H : Head prog w A g dr os K mg mb env target it src mo N Rel) (acc : Nat → MO) (muF : Nat → List (Addr × MO))
    (hsrc : ∀ i m h, i ≤ N → St prog w K mg mb h₀ env.locals m (mo i ++ (D, acc i) :: muF i) fs h → src h)
    (S : St prog w K mg mb h₀ env.locals m (mo 0 ++ (D, acc 0) :: muF 0) fs h)
    (turn : ∀ i, i < N → ∀ b f m h tk, Rel i b f → St prog w K mg mb h₀ env.locals (mB b m) (mo (i + 1) ++ (D, acc i) :: muF i) (f ++ fs) h →
      wpAny (model prog w) A (isTrue c env (eval c env)) (fun ok s₄ => if ok = true then wpAny (model prog w) A (eval elt env) (fun x s₄ => wpAny (model prog w) A (call (.builtin "list.append") [.ref D, x]) (fun _ s₅ => Goes prog w K mg mb h₀ env.locals g dr os (mo (i + 1) ++ (D, acc (i + 1)) :: muF (i + 1)) fs s₅) noE s₄) noE s₄ else Goes prog w K mg mb h₀ env.locals g dr os (mo (i + 1) ++ (D, acc (i + 1)) :: muF (i + 1)) fs s₄) noE ⟨h, g, dr, tk, os⟩)
    (done : ∀ m h tk, St prog w K mg mb h₀ env.locals m ((D, acc N) :: muF N) fs h → R (.ok .next) ⟨h, g, dr, tk, os⟩) :
    codeAny (model prog w) A (.compLoop (.ListComp elt [⟨target, iter, [c], 0⟩] scope pos) 0 it (.ref D) env) R ⟨h, g, dr, tk, os⟩ := by
  refine r_compLoopIf (fun n s => ∃ i m h tk, i ≤ N ∧ n = N - i ∧ s = ⟨h, g, dr, tk, os⟩ ∧ St prog w K mg mb h₀ env.locals m (mo i ++ (D, acc i) :: muF i) fs h) ?_ N ⟨0, _, _, _, Nat.zero_le _, rfl, rfl, S⟩
  rintro n s ⟨i, m, h, tk, hi, rfl, rfl, S⟩
  refine H i _ m _ fs h tk _ _ hi (hsrc i m h hi S) S (fun hN h' tk' S' => ?_) fun hlt b f h' tk' hr S' => ?_
  · subst hN; exact done _ _ _ S'
  · refine wpAny_mono (turn i hlt b f m h' tk' hr S') (fun ok s₄ h₄ => ?_) fun _ _ e => e
    cases ok with
    | true =>
      simp only [if_true] at h₄ ⊢
      refine wpAny_mono h₄ (fun x s₄ h₄ => wpAny_mono h₄ (fun _ s₅ h₅ => ?_) fun _ _ e => e) fun _ _ e => e
      obtain ⟨m', h'', tk'', rfl, S''⟩ := h₅.it
      exact ⟨N - (i + 1), by omega, i + 1, m', h'', tk'', hlt, rfl, rfl, S''⟩
    | false =>
      simp only [Bool.false_eq_true, if_false] at h₄ ⊢
      obtain ⟨m', h'', tk'', rfl, S''⟩ := h₄.it
      exact ⟨N - (i + 1), by omega, i + 1, m', h'', tk'', hlt, rfl, rfl, S''⟩

theorem r_fl {target : Expr} {it : Value} {body : List Stmt} {src : Heap → Prop} {mo : Nat → List (Addr × MO)} {N : Nat} {Rel : Nat → List (Str × Value) → List (Value × PyData) → Prop} {Q : Flow → Shared → Prop}
    (H : Head prog w A g dr os K mg mb env target it src mo N Rel) (J : Nat → (Str → Option Value) → List (Addr × MO) → List (Value × PyData) → Prop)
    (hsrc : ∀ i m mu fs h, i ≤ N → J i m mu fs → St prog w K mg mb h₀ env.locals m (mo i ++ mu) fs h → src h)
    (h0 : J 0 m mu fs) (S : St prog w K mg mb h₀ env.locals m (mo 0 ++ mu) fs h)
    (turn : ∀ i, i < N → ∀ b f m mu fs h tk, Rel i b f → J i m mu fs → St prog w K mg mb h₀ env.locals (mB b m) (mo (i + 1) ++ mu) (f ++ fs) h →
      wpAny (model prog w) A (execs body env) (fun fl s₄ => match fl with
        | .next | .cont => Hold (∃ m' mu' fs' h' tk', s₄ = ⟨h', g, dr, tk', os⟩ ∧ J (i + 1) m' mu' fs' ∧ St prog w K mg mb h₀ env.locals m' (mo (i + 1) ++ mu') fs' h')
        | .brk => Q .next s₄
        | .ret v => Q (.ret v) s₄) noE ⟨h, g, dr, tk, os⟩)
    (done : ∀ m mu fs h tk, J N m mu fs → St prog w K mg mb h₀ env.locals m mu fs h → Q .next ⟨h, g, dr, tk, os⟩) :
    codeAny (model prog w) A (.forLoop target it body [] env) (fun r s' => match r with | .ok f => Q f s' | .error e => cameBackBy (model prog w) A env E e s') ⟨h, g, dr, tk, os⟩ := by
  refine r_forLoop (fun n s => ∃ i m mu fs h tk, i ≤ N ∧ n = N - i ∧ s = ⟨h, g, dr, tk, os⟩ ∧ J i m mu fs ∧ St prog w K mg mb h₀ env.locals m (mo i ++ mu) fs h) ?_ N ⟨0, _, _, _, _, _, Nat.zero_le _, rfl, rfl, h0, S⟩
  rintro n s ⟨i, m, mu, fs, h, tk, hi, rfl, rfl, hJ, S⟩
  refine H i _ m _ fs h tk _ _ hi (hsrc i m mu fs h hi hJ S) S (fun hN h' tk' S' => ?_) fun hlt b f h' tk' hr S' => ?_
  · subst hN; exact done _ _ _ _ _ hJ S'
  · refine wpAny_mono (turn i hlt b f m mu fs h' tk' hr hJ S') (fun fl s₄ h₄ => ?_) fun _ _ e => e
    cases fl with
    | next => obtain ⟨m', mu', fs', h'', tk'', rfl, hJ', S''⟩ := h₄.it; exact ⟨N - (i + 1), by omega, i + 1, m', mu', fs', h'', tk'', hlt, rfl, rfl, hJ', S''⟩
    | cont => obtain ⟨m', mu', fs', h'', tk'', rfl, hJ', S''⟩ := h₄.it; exact ⟨N - (i + 1), by omega, i + 1, m', mu', fs', h'', tk'', hlt, rfl, rfl, hJ', S''⟩
    | brk => exact h₄
    | ret v => exact h₄
end
section
variable {prog : Program} {w : World} {K : Frag} {mg mb : Str → Option Value} {h₀ h h' : Heap} {L : Addr} {m m' : Str → Option Value} {mu mu' mu₁ mu₂ : List (Addr × MO)} {fs fs' : List (Value × PyData)}
  {A : Around} {E : Value → Shared → Prop} {g : Array GenState} {dr : Drawn} {os : OsState} {tk : Nat} {env : Env}

/-! ## dicts keyed by paths -/
noncomputable abbrev pt (p : List Int) : PyData := .tuple (p.map .int)

theorem itemsAre {vs : List Value} : ∀ {p : List Int}, TDs h vs (p.map .int) → ItemsAre (intKind prog w) p vs := by
  induction vs with
  | nil => intro p x; cases p with
    | nil => exact .nil
    | cons _ _ => cases x
  | cons v vs ih => intro p x; cases p with
    | nil => cases x
    | cons i p =>
      cases x with
      | cons d r =>
        obtain ⟨t, rfl⟩ := d.int_inv
        exact .cons (by simp [intKind, Value.isInt]) (ih r)
theorem tupKey {a : Addr} {p : List Int} (T : TD h (.ref a) (pt p)) : (KK prog w).is h p a := by
  obtain ⟨a', vs, n, ha, hT, r⟩ := T.tup_inv
  cases ha
  exact ⟨_, vs, n, hT, rfl, rfl, itemsAre r⟩
theorem kkRoom (hu : A.units + 1 < cLine) : (KK prog w).room A.in1 := tupleKind_room_in1 hu

theorem r_getK {value slice : Expr} {d a ka : Addr} {p : List Int} {v : Value} {xs : List (List Int × Addr × Value)} {Q : Value → Shared → Prop} (hu : A.units + 1 < cLine) (hm : (MO.kd xs).Is prog w h d) (T : TD h (.ref a) (pt p)) (hp : atKey xs p = some (ka, v))
    (k : ∀ tk', Q v ⟨h, g, dr, tk', os⟩)
    (hs : subscripted slice false (.ref d) (.ref a) = operate [.ref d, .ref a] (getItem (.ref d) (.ref a)) := by with_unfolding_all rfl) :
    wpAny (model prog w) A (subscriptTail value slice (.ref d) (.ref a)) Q E ⟨h, g, dr, tk, os⟩ :=
  tail_any (T := "dict") (Heap.DictOfH.typeIs hm) slot_dict_getitem.lookup (wpAny_getItem_heap (kkRoom hu) (tupKey T) hm hp (k _)) hs

theorem r_setK {d a : Addr} {p : List Int} {v : Value} {xs : List (List Int × Addr × Value)} {Q : Unit → Shared → Prop} (hu : A.units + 1 < cLine) (S : St prog w K mg mb h₀ L m mu fs h) (u : Up d (.kd xs) (.kd (xs ++ [(p, a, v)])) mu mu') (T : TD h (.ref a) (pt p)) (hp : atKey xs p = none)
    (k : ∀ h' tk', St prog w K mg mb h₀ L m mu' fs h' → Q () ⟨h', g, dr, tk', os⟩) (hsz : xs.length ≤ sizeLine) :
    wpAny (model prog w) A (setItem (.ref d) (.ref a) v) Q E ⟨h, g, dr, tk, os⟩ :=
  wpAny_setItem_heap (hsz := hsz) (kkRoom hu) (tupKey T) (S.mo u.mem) fun h' hm hs => k _ _ (S.upd u (by rw [storedH_new hp] at hm; exact hm) hs.extBut)

theorem r_newKD {pos : Pos} {Q : Value → Shared → Prop} (S : St prog w K mg mb h₀ L m mu fs h) (k : ∀ d h' tk', Le h h' → St prog w K mg mb h₀ L m ((d, .kd []) :: mu) fs h' → Q (.ref d) ⟨h', g, dr, tk', os⟩) :
    wpAny (model prog w) A (eval (.Dict [] [] pos) env) Q E ⟨h, g, dr, tk, os⟩ := by
  rw [eval_Dict_empty]
  exact wpAny_bind (wpAny_standAt (wpAny_newObj_type (k _ _ _ (Le.push _ _) (S.new (mo := .kd []) (Heap.DictOfH.new h)))))
theorem r_newSD {pos : Pos} {Q : Value → Shared → Prop} (S : St prog w K mg mb h₀ L m mu fs h) (k : ∀ d h' tk', Le h h' → St prog w K mg mb h₀ L m ((d, .sd []) :: mu) fs h' → Q (.ref d) ⟨h', g, dr, tk', os⟩) :
    wpAny (model prog w) A (eval (.Dict [] [] pos) env) Q E ⟨h, g, dr, tk, os⟩ := by
  rw [eval_Dict_empty]
  exact wpAny_bind (wpAny_standAt (wpAny_newObj_type (k _ _ _ (Le.push _ _) (S.new (mo := .sd []) (Heap.DictOf.new h)))))

/-! ## dicts keyed by text -/
theorem strIs {x : Str} {t : Tok} : (PySem.strKind prog w).is x (.str x t) = true := by simp [PySem.strKind, Value.isStrOf]
theorem r_getS {value slice : Expr} {d : Addr} {x : Str} {t : Tok} {v : Value} {kvs : List (Str × Value)} {Q : Value → Shared → Prop} (hm : h.DictOf (strKind prog w) d kvs) (hv : valueAt kvs x = some v)
    (k : ∀ tk', Q v ⟨h, g, dr, tk', os⟩)
    (hs : subscripted slice false (.ref d) (.str x t) = operate [.ref d, .str x t] (getItem (.ref d) (.str x t)) := by with_unfolding_all rfl) :
    wpAny (model prog w) A (subscriptTail value slice (.ref d) (.str x t)) Q E ⟨h, g, dr, tk, os⟩ :=
  tail_any (T := "dict") (Heap.DictOf.typeIs hm) slot_dict_getitem.lookup (wpAny_getItem_of strIs hm.mapOf hv (k _)) hs
end
/-! ## terms and papers -/
inductive Tm where
  | mk (op : Str) (kids : List Tm)
inductive Pap where
  | same (t : Tm)
  | told (x : Str)
  | turn (p : Pap)
  | join (p q : Pap)
  | under (op : Str) (kids : List Pap)

noncomputable def Tm.op : Tm → Str | .mk o _ => o
noncomputable def Tm.kids : Tm → List Tm | .mk _ ks => ks

mutual
noncomputable def Tm.d : Tm → PyData
  | .mk o ks => .tuple (.str o :: dT ks)
noncomputable def dT : List Tm → List PyData
  | [] => []
  | t :: r => t.d :: dT r
end
theorem dT_map : ∀ l, dT l = l.map Tm.d
  | [] => rfl
  | t :: r => by rw [dT, dT_map r]; rfl
theorem Tm.d_eq (t : Tm) : t.d = .tuple (.str t.op :: t.kids.map Tm.d) := by cases t; simp only [Tm.d, dT_map, Tm.op, Tm.kids]

mutual
noncomputable def Pap.d : Pap → PyData
  | .same t => .tuple [.str "same", t.d]
  | .told x => .tuple [.str "told", .str x]
  | .turn p => .tuple [.str "turn", p.d]
  | .join p q => .tuple [.str "join", p.d, q.d]
  | .under o ks => .tuple [.str "under", .str o, .tuple (dP ks)]
noncomputable def dP : List Pap → List PyData
  | [] => []
  | p :: r => p.d :: dP r
end
theorem dP_map : ∀ l, dP l = l.map Pap.d
  | [] => rfl
  | t :: r => by rw [dP, dP_map r]; rfl

noncomputable def Pap.parts : Pap → List Pap
  | .same _ | .told _ => []
  | .turn p => [p]
  | .join p q => [p, q]
  | .under _ ks => ks

mutual
noncomputable def Tm.size : Tm → Nat
  | .mk _ ks => 1 + zT ks
noncomputable def zT : List Tm → Nat
  | [] => 0
  | t :: r => t.size + zT r
end
mutual
noncomputable def Pap.size : Pap → Nat
  | .same _ => 1
  | .told _ => 1
  | .turn p => 1 + p.size
  | .join p q => 1 + (p.size + q.size)
  | .under _ ks => 1 + zP ks
noncomputable def zP : List Pap → Nat
  | [] => 0
  | t :: r => t.size + zP r
end
theorem zT_append : ∀ a b, zT (a ++ b) = zT a + zT b
  | [], b => by simp [zT]
  | t :: a, b => by simp [zT, zT_append a b]; omega
theorem zP_append : ∀ a b, zP (a ++ b) = zP a + zP b
  | [], b => by simp [zP]
  | t :: a, b => by simp [zP, zP_append a b]; omega
theorem Pap.size_parts (p : Pap) : p.size = 1 + zP p.parts := by cases p <;> simp [Pap.size, Pap.parts, zP]
theorem Tm.size_kids (t : Tm) : t.size = 1 + zT t.kids := by cases t; simp [Tm.size, Tm.kids]
theorem Tm.size_pos (t : Tm) : 0 < t.size := by rw [Tm.size_kids]; omega
theorem Pap.size_pos (t : Pap) : 0 < t.size := by rw [Pap.size_parts]; omega
theorem len_zT : ∀ l, l.length ≤ zT l
  | [] => Nat.le_refl _
  | t :: r => by have := len_zT r; have := t.size_pos; simp [zT]; omega
theorem len_zP : ∀ l, l.length ≤ zP l
  | [] => Nat.le_refl _
  | t :: r => by have := len_zP r; have := t.size_pos; simp [zP]; omega

/-! good ops -/
noncomputable def gOps : List Str := ["a", "b", "f", "g", "h", "c"]
mutual
noncomputable def Tm.ok : Tm → Prop
  | .mk o ks => o ∈ gOps ∧ okT ks
noncomputable def okT : List Tm → Prop
  | [] => True
  | t :: r => t.ok ∧ okT r
end
theorem okT_iff : ∀ l, okT l ↔ ∀ t ∈ l, t.ok
  | [] => by simp [okT]
  | t :: r => by simp [okT, okT_iff r]
theorem Tm.ok_iff (t : Tm) : t.ok ↔ t.op ∈ gOps ∧ ∀ k ∈ t.kids, k.ok := by cases t; simp [Tm.ok, okT_iff, Tm.op, Tm.kids]
mutual
noncomputable def Pap.ok : Pap → Prop
  | .same t => t.ok ∧ t.size < 1000
  | .told _ => True
  | .turn p => p.ok
  | .join p q => p.ok ∧ q.ok
  | .under o ks => o ∈ gOps ∧ okP ks
noncomputable def okP : List Pap → Prop
  | [] => True
  | t :: r => t.ok ∧ okP r
end
theorem okP_iff : ∀ l, okP l ↔ ∀ t ∈ l, t.ok
  | [] => by simp [okP]
  | t :: r => by simp [okP, okP_iff r]
theorem Pap.ok_parts {p : Pap} (h : p.ok) : ∀ q ∈ p.parts, q.ok := by
  cases p <;> simp_all [Pap.ok, Pap.parts, okP_iff]

/-! paths, the walk of a paper -/
noncomputable abbrev Path := List Int
mutual
noncomputable def post (q : Path) : Pap → List (Path × Pap)
  | .same t => [(q, .same t)]
  | .told x => [(q, .told x)]
  | .turn p => post (q ++ [0]) p ++ [(q, .turn p)]
  | .join p p' => post (q ++ [0]) p ++ (post (q ++ [1]) p' ++ [(q, .join p p')])
  | .under o ks => postL q 0 ks ++ [(q, .under o ks)]
noncomputable def postL (q : Path) (i : Nat) : List Pap → List (Path × Pap)
  | [] => []
  | p :: r => post (q ++ [(i : Int)]) p ++ postL q (i + 1) r
end
theorem post_parts (q : Path) (p : Pap) : post q p = postL q 0 p.parts ++ [(q, p)] := by
  cases p <;> simp [post, postL, Pap.parts]
mutual
theorem post_len (q : Path) : ∀ p, (post q p).length = p.size
  | .same t => rfl
  | .told x => rfl
  | .turn p => by simp [post, Pap.size, post_len _ p]; omega
  | .join p p' => by simp [post, Pap.size, post_len _ p, post_len _ p']; omega
  | .under o ks => by simp [post, Pap.size, postL_len _ _ ks]; omega
theorem postL_len (q : Path) (i : Nat) : ∀ l, (postL q i l).length = zP l
  | [] => rfl
  | p :: r => by simp [postL, zP, post_len _ p, postL_len _ _ r]
end
section
variable {prog : Program} {w : World} {K : Frag} {mg mb : Str → Option Value} {h₀ h h' : Heap} {L : Addr} {m m' : Str → Option Value} {mu mu' mu₁ mu₂ : List (Addr × MO)} {fs fs' : List (Value × PyData)}
  {A : Around} {E : Value → Shared → Prop} {g : Array GenState} {dr : Drawn} {os : OsState} {tk : Nat} {env : Env}
theorem r_inT2b {b : Bool} {x y z : Str} {t : Tok} {a : Addr} {Q : Value → Shared → Prop} (T : TD h (.ref a) (.tuple [.str y, .str z])) (e : (y == x || z == x) = b) (q : Q (.bool b) ⟨h, g, dr, tk, os⟩) :
    wpAny (model prog w) A (compareOp .In (.str x t) (.ref a)) Q E ⟨h, g, dr, tk, os⟩ := r_inT2 T (by rw [e]; exact q)
theorem cx0 {v : Value} {d : PyData} (G : Gd K mg mb h) (T : TD h v d) : Cx prog w K mg mb h [] [(v, d)] h := ⟨G, Le.refl _, (fun p hp => nomatch hp), .nil, fun p hp => by rw [List.mem_singleton.mp hp]; exact T⟩
theorem cx00 (G : Gd K mg mb h) : Cx prog w K mg mb h [] [] h := ⟨G, Le.refl _, (fun p hp => nomatch hp), .nil, fun p hp => nomatch hp⟩
theorem St.bare (S : St prog w K mg mb h₀ L m mu fs h) : St prog w K mg mb h₀ L m mu [] h := S.facts fun p hp => nomatch hp
theorem r_asg2 {elts : List Expr} {x1} {pos : Pos} {a : Addr} {j : Nat} {d1 d2 : PyData} {Q : Unit → Shared → Prop} (S : St prog w K mg mb h₀ L m mu fs h) (R : Rm A j) (T : TD h (.ref a) (.tuple [d1, d2])) (hn : (assignEach elts env).length = 2) (hstar : (assignEach elts env).findIdx? (·.1) = none)
    (k : ∀ v1 v2 h', St prog w K mg mb h₀ L m mu ((v1, d1) :: (v2, d2) :: fs) h' → wpAny (model prog w) A (assignInOrder ((assignEach elts env).map (·.2)) [v1, v2]) Q E ⟨h', g, dr, tk, os⟩) : wpAny (model prog w) A (assign (.Tuple elts x1 pos) env (.ref a)) Q E ⟨h, g, dr, tk, os⟩ := by
  obtain ⟨q, v1, v2, hq, hT, t1, t2⟩ := pairShape T
  cases hq
  refine wpAny_assign_Tuple (items := #[v1, v2]) R.hh hT hn hstar fun h' hx => ?_
  have l : Le h h' := fun b o e => hx b o (Nat.ne_of_lt (Heap.lt_size e)) e
  exact k v1 v2 h' (((S.ext l).fact (t2.mono l.tle)).fact (t1.mono l.tle))
theorem r_newTupleR {vs : List Value} {Q : Value → Shared → Prop} (S : St prog w K mg mb h₀ L m mu fs h) (k : ∀ a h' tk', Le h h' → h'.IsTuple a vs.toArray → St prog w K mg mb h₀ L m mu fs h' → Q (.ref a) ⟨h', g, dr, tk', os⟩) (hsz : vs.length ≤ sizeLine) :
    wpAny (model prog w) A (newTuple vs) Q E ⟨h, g, dr, tk, os⟩ :=
  wpAny_newObj_type (k _ _ _ (Le.push _ _) ⟨_, Heap.get?_push_size _ rfl, rfl, 0, rfl⟩ (S.ext (Le.push _ _))) (by show vs.toArray.size ≤ sizeLine; simpa using hsz)
theorem r_unpackR {a : Addr} {n j : Nat} {vs : List Value} {Q : List Value → Shared → Prop} (S : St prog w K mg mb h₀ L m mu fs h) (R : Rm A j) (hT : h.IsTuple a vs.toArray) (hn : n = vs.length)
    (k : ∀ h', Le h h' → St prog w K mg mb h₀ L m mu fs h' → Q vs ⟨h', g, dr, tk, os⟩) : wpAny (model prog w) A (unpackItems (.ref a) n none) Q E ⟨h, g, dr, tk, os⟩ := by
  subst hn
  have e : vs.length = vs.toArray.size := by simp
  rw [e]
  refine wpAny_unpackItems_tuple R.hh hT fun h' hx => ?_
  have l : Le h h' := fun b o e => hx b o (Nat.ne_of_lt (Heap.lt_size e)) e
  exact k h' l (S.ext l)
theorem r_cellT {x : Str} {pos : Pos} {c : Addr} {es : List PyData} {Q : Value → Shared → Prop} (S : St prog w K mg mb h₀ L m mu fs h) (hc : env.cells.lookup x = some c) (hm : (MO.cellD (.tuple es)).Is prog w h c) (k : ∀ b, St prog w K mg mb h₀ L m mu ((.ref b, .tuple es) :: fs) h → Q (.ref b) ⟨h, g, dr, tk, os⟩)
    (hk : env.scope.kind = .function := by k_dflt rfl) (hl : env.kindOf x = some .cell := by k_dflt rfl) (hd : (x == ("__debug__" : Str)) = false := by k_dflt decide) :
    wpAny (model prog w) A (eval (.Name x pos) env) Q E ⟨h, g, dr, tk, os⟩ :=
  r_cellD S hc hm (fun v S' => by obtain ⟨a, _, _, rfl, _⟩ := (S'.td (.head _)).tup_inv; exact k a S') hk hl hd
theorem r_lenTn {a : Addr} {ds : List PyData} {n : Nat} {z : Int} {Q : Value → Shared → Prop} (T : TD h (.ref a) (.tuple ds)) (hn : ds.length = n) (hz : (n : Int) = z) (hs : n < 2 ^ 40) (q : ∀ t' tk', Q (.int z t') ⟨h, g, dr, tk', os⟩) :
    wpAny (model prog w) A (call (.builtin "len") [.ref a]) Q E ⟨h, g, dr, tk, os⟩ := by
  subst hn; subst hz
  exact r_lenT T hs q
theorem r_unpack2 {a : Addr} {n j : Nat} {d1 d2 : PyData} {Q : List Value → Shared → Prop} (S : St prog w K mg mb h₀ L m mu fs h) (R : Rm A j) (T : TD h (.ref a) (.tuple [d1, d2])) (hn : n = 2)
    (k : ∀ v1 v2 h', St prog w K mg mb h₀ L m mu ((v1, d1) :: (v2, d2) :: fs) h' → Q [v1, v2] ⟨h', g, dr, tk, os⟩) : wpAny (model prog w) A (unpackItems (.ref a) n none) Q E ⟨h, g, dr, tk, os⟩ := by
  subst hn
  obtain ⟨q, v1, v2, hq, hT, t1, t2⟩ := pairShape T
  cases hq
  refine wpAny_unpackItems_tuple (items := #[v1, v2]) R.hh hT fun h' hx => ?_
  have l : Le h h' := fun b o e => hx b o (Nat.ne_of_lt (Heap.lt_size e)) e
  exact k v1 v2 h' (((S.ext l).fact (t2.mono l.tle)).fact (t1.mono l.tle))
theorem r_unpack2_si {a : Addr} {n j : Nat} {x : Str} {i : Int} {Q : List Value → Shared → Prop} (S : St prog w K mg mb h₀ L m mu fs h) (R : Rm A j) (T : TD h (.ref a) (.tuple [.str x, .int i])) (hn : n = 2)
    (k : ∀ t1 t2 h', St prog w K mg mb h₀ L m mu fs h' → Q [.str x t1, .int i t2] ⟨h', g, dr, tk, os⟩) : wpAny (model prog w) A (unpackItems (.ref a) n none) Q E ⟨h, g, dr, tk, os⟩ :=
  r_unpack2 S R T hn fun v1 v2 h' S' => by
    obtain ⟨t1, rfl⟩ := (S'.td (.head _)).str_inv
    obtain ⟨t2, rfl⟩ := (S'.td (.tail _ (.head _))).int_inv
    exact k t1 t2 h' (S'.facts fun p hp => .tail _ (.tail _ hp))
theorem r_popT {l : Addr} {ds es : List PyData} {Q : Value → Shared → Prop} (S : St prog w K mg mb h₀ L m mu fs h) (u : Up l (.ld (ds ++ [.tuple es])) (.ld ds) mu mu')
    (k : ∀ b h' tk', St prog w K mg mb h₀ L m mu' ((.ref b, .tuple es) :: fs) h' → Q (.ref b) ⟨h', g, dr, tk', os⟩) (hsz : ds.length < sizeLine) :
    wpAny (model prog w) A (call (.builtin "list.pop") [.ref l]) Q E ⟨h, g, dr, tk, os⟩ :=
  r_pop S u (fun v h' tk' S' => by
    have T := S'.td (.head _)
    obtain ⟨a, vs, n, rfl, _, _⟩ := T.tup_inv
    exact k a h' tk' S') hsz
end
theorem gOps_len {o : Str} (h : o ∈ gOps) : o.length ≤ sizeLine := by
  simp only [gOps, List.mem_cons, List.not_mem_nil, or_false] at h
  rcases h with rfl | rfl | rfl | rfl | rfl | rfl <;> decide
theorem gOps_in {o : Str} (h : o ∈ gOps) : (("" : Str) == Txt.slice o none (some 1) || ("?" : Str) == Txt.slice o none (some 1)) = false := by
  simp only [gOps, List.mem_cons, List.not_mem_nil, or_false] at h
  rcases h with rfl | rfl | rfl | rfl | rfl | rfl <;> decide
theorem b_len : bootBuiltins "len" = some (.builtin "len") := by decide +kernel
theorem b_isinstance : bootBuiltins "isinstance" = some (.builtin "isinstance") := by decide +kernel
theorem b_tuple : bootBuiltins "tuple" = some (.type "tuple") := by decide +kernel
theorem b_str : bootBuiltins "str" = some (.type "str") := by decide +kernel
theorem b_range : bootBuiltins "range" = some (.type "range") := by decide +kernel
theorem b_enumerate : bootBuiltins "enumerate" = some (.type "enumerate") := by decide +kernel
theorem b_reversed : bootBuiltins "reversed" = some (.type "reversed") := by decide +kernel
theorem b_dict : bootBuiltins "dict" = some (.type "dict") := by decide +kernel
theorem b_int : bootBuiltins "int" = some (.type "int") := by decide +kernel
section
variable {prog : Program} {w : World} {K : Frag} {mg mb : Str → Option Value} {h₀ h h' : Heap} {L : Addr} {m m' : Str → Option Value} {mu mu' mu₁ mu₂ : List (Addr × MO)} {fs fs' : List (Value × PyData)}
  {A : Around} {E : Value → Shared → Prop} {g : Array GenState} {dr : Drawn} {os : OsState} {tk : Nat} {env : Env}

theorem St.begin {D : Addr} {mo : MO} {a b : List (Addr × MO)} (S : St prog w K mg mb h₀ L m ((D, .lst []) :: (a ++ b)) fs h) (h0 : mo = .ld [] ∨ mo = .lst []) : St prog w K mg mb h₀ L m (a ++ (D, mo) :: b) fs h := by
  have hD : mo.Is prog w h D := by
    have x := S.mo (.head _)
    rcases h0 with rfl | rfl
    · obtain ⟨n, e⟩ := x; exact ⟨[], n, e, .nil⟩
    · exact x
  have key : ∀ p ∈ a ++ (D, mo) :: b, p = (D, mo) ∨ p ∈ a ++ b := fun p hp => by
    rcases List.mem_append.mp hp with hp | hp
    · exact .inr (List.mem_append_left _ hp)
    · rcases List.mem_cons.mp hp with hp | hp
      · exact .inl hp
      · exact .inr (List.mem_append_right _ hp)
  refine ⟨⟨S.cx.gd, S.cx.keep, fun p hp => ?_, ?_, S.cx.tds⟩, S.ns, S.off, fun p hp => ?_⟩
  · rcases key p hp with rfl | hp
    · exact ⟨hD, (S.cx.mus _ (.head _)).2⟩
    · exact S.cx.mus p (.tail _ hp)
  · have nd := S.cx.nd
    rw [List.map_cons, List.map_append] at nd
    rw [List.map_append, List.map_cons]
    exact (List.perm_middle.nodup_iff).mpr nd
  · rcases key p hp with rfl | hp
    · exact S.ne (D, .lst []) (.head _)
    · exact S.ne p (.tail _ hp)

/-- the end of the first half of a comprehension: the walker is made; what it walks, and what each turn adds -/
theorem r_ch {elt target iter : Expr} {scope : Scope} {pos : Pos} {cl : List (Str × Addr)} {I : Addr} {src : Heap → Prop} {mo : Nat → List (Addr × MO)} {N : Nat} {Rel : Nat → List (Str × Value) → List (Value × PyData) → Prop} {Q : Addr → Heap → Nat → Prop} {mm : Addr → Str → Option Value}
    (acc : Nat → MO) (muF : Nat → List (Addr × MO))
    (S : St prog w K mg mb h₀ L m ((mo 0 ++ muF 0) ++ mu) fs h) (self : Self prog w A g dr os I (mo 0 ++ muF 0))
    (H : ∀ C, Head prog w A g dr os K mg mb (compEnvC scope cl C env) target (.ref I) src mo N Rel) (h0 : acc 0 = .ld [] ∨ acc 0 = .lst [])
    (hsrc : ∀ h₁ C D, Outer prog w K mg mb h₀ L m mu h₁ → ∀ i m h, i ≤ N → St prog w K mg mb h₁ C m (mo i ++ (D, acc i) :: muF i) fs h → src h)
    (turn : ∀ h₁ C D, Outer prog w K mg mb h₀ L m mu h₁ → ∀ i, i < N → ∀ b f m h tk, Rel i b f → St prog w K mg mb h₁ C (mB b m) (mo (i + 1) ++ (D, acc i) :: muF i) (f ++ fs) h →
      wpAny (model prog w) A (eval elt (compEnvC scope cl C env)) (fun x s₄ => wpAny (model prog w) A (call (.builtin "list.append") [.ref D, x]) (fun _ s₅ => Goes prog w K mg mb h₁ C g dr os (mo (i + 1) ++ (D, acc (i + 1)) :: muF (i + 1)) fs s₅) noE s₄) noE ⟨h, g, dr, tk, os⟩)
    (done : ∀ D h₆ tk₆, St prog w K mg mb h₀ L (mm D) ((D, acc N) :: (muF N ++ mu)) fs h₆ → Q D h₆ tk₆) :
    ∃ h₂ tk₂ I' muI fs₂ mu₂, Value.ref I = .ref I' ∧ (⟨h, g, dr, tk, os⟩ : Shared) = ⟨h₂, g, dr, tk₂, os⟩ ∧ St prog w K mg mb h₀ L m (muI ++ mu₂) fs₂ h₂ ∧
      (∀ (h' : Heap) (t' : Nat) (Q : Value → Shared → Prop) (E : Value → Shared → Prop), (∀ p ∈ muI, p.2.Is prog w h' p.1) → Q (.ref I') ⟨h', g, dr, t', os⟩ → wpAny (model prog w) A (pyIter (.ref I')) Q E ⟨h', g, dr, t', os⟩) ∧
      (∀ h₁ C D h' tk', Outer prog w K mg mb h₀ L m mu₂ h₁ → St prog w K mg mb h₁ C (fun _ => none) ((D, .lst []) :: muI) fs₂ h' →
        codeAny (model prog w) A (.compLoop (.ListComp elt [⟨target, iter, [], 0⟩] scope pos) 0 (.ref I') (.ref D) (compEnvC scope cl C env)) (fun r s' => (∃ f, r = .ok f) ∧ ∃ muR fs' m' h₅ tk₅, s' = ⟨h₅, g, dr, tk₅, os⟩ ∧
          St prog w K mg mb h₁ C m' muR fs' h₅ ∧ ∀ h₆ tk₆, St prog w K mg mb h₀ L (mm D) (muR ++ mu₂) fs' h₆ → Q D h₆ tk₆) ⟨h', g, dr, tk', os⟩) := by
  refine ⟨h, tk, I, mo 0 ++ muF 0, fs, mu, rfl, rfl, S, self, fun h₁ C D h' tk' O Sc => ?_⟩
  refine r_cl (h₀ := h₁) (env := compEnvC scope cl C env) (H C) acc muF (fun i m h hi S => hsrc h₁ C D O i m h hi S) (Sc.begin h0) (turn h₁ C D O) fun m h tk S => ?_
  exact ⟨⟨_, rfl⟩, _, _, _, _, _, rfl, S, fun h₆ tk₆ S' => done D h₆ tk₆ S'⟩
theorem r_chIf {c elt target iter : Expr} {scope : Scope} {pos : Pos} {cl : List (Str × Addr)} {I : Addr} {src : Heap → Prop} {mo : Nat → List (Addr × MO)} {N : Nat} {Rel : Nat → List (Str × Value) → List (Value × PyData) → Prop} {Q : Addr → Heap → Nat → Prop} {mm : Addr → Str → Option Value}
    (acc : Nat → MO) (muF : Nat → List (Addr × MO))
    (S : St prog w K mg mb h₀ L m ((mo 0 ++ muF 0) ++ mu) fs h) (self : Self prog w A g dr os I (mo 0 ++ muF 0))
    (H : ∀ C, Head prog w A g dr os K mg mb (compEnvC scope cl C env) target (.ref I) src mo N Rel) (h0 : acc 0 = .ld [] ∨ acc 0 = .lst [])
    (hsrc : ∀ h₁ C D, Outer prog w K mg mb h₀ L m mu h₁ → ∀ i m h, i ≤ N → St prog w K mg mb h₁ C m (mo i ++ (D, acc i) :: muF i) fs h → src h)
    (turn : ∀ h₁ C D, Outer prog w K mg mb h₀ L m mu h₁ → ∀ i, i < N → ∀ b f m h tk, Rel i b f → St prog w K mg mb h₁ C (mB b m) (mo (i + 1) ++ (D, acc i) :: muF i) (f ++ fs) h →
      wpAny (model prog w) A (isTrue c (compEnvC scope cl C env) (eval c (compEnvC scope cl C env))) (fun ok s₄ => if ok = true then wpAny (model prog w) A (eval elt (compEnvC scope cl C env)) (fun x s₄ => wpAny (model prog w) A (call (.builtin "list.append") [.ref D, x]) (fun _ s₅ => Goes prog w K mg mb h₁ C g dr os (mo (i + 1) ++ (D, acc (i + 1)) :: muF (i + 1)) fs s₅) noE s₄) noE s₄
        else Goes prog w K mg mb h₁ C g dr os (mo (i + 1) ++ (D, acc (i + 1)) :: muF (i + 1)) fs s₄) noE ⟨h, g, dr, tk, os⟩)
    (done : ∀ D h₆ tk₆, St prog w K mg mb h₀ L (mm D) ((D, acc N) :: (muF N ++ mu)) fs h₆ → Q D h₆ tk₆) :
    ∃ h₂ tk₂ I' muI fs₂ mu₂, Value.ref I = .ref I' ∧ (⟨h, g, dr, tk, os⟩ : Shared) = ⟨h₂, g, dr, tk₂, os⟩ ∧ St prog w K mg mb h₀ L m (muI ++ mu₂) fs₂ h₂ ∧
      (∀ (h' : Heap) (t' : Nat) (Q : Value → Shared → Prop) (E : Value → Shared → Prop), (∀ p ∈ muI, p.2.Is prog w h' p.1) → Q (.ref I') ⟨h', g, dr, t', os⟩ → wpAny (model prog w) A (pyIter (.ref I')) Q E ⟨h', g, dr, t', os⟩) ∧
      (∀ h₁ C D h' tk', Outer prog w K mg mb h₀ L m mu₂ h₁ → St prog w K mg mb h₁ C (fun _ => none) ((D, .lst []) :: muI) fs₂ h' →
        codeAny (model prog w) A (.compLoop (.ListComp elt [⟨target, iter, [c], 0⟩] scope pos) 0 (.ref I') (.ref D) (compEnvC scope cl C env)) (fun r s' => (∃ f, r = .ok f) ∧ ∃ muR fs' m' h₅ tk₅, s' = ⟨h₅, g, dr, tk₅, os⟩ ∧
          St prog w K mg mb h₁ C m' muR fs' h₅ ∧ ∀ h₆ tk₆, St prog w K mg mb h₀ L (mm D) (muR ++ mu₂) fs' h₆ → Q D h₆ tk₆) ⟨h', g, dr, tk', os⟩) := by
  refine ⟨h, tk, I, mo 0 ++ muF 0, fs, mu, rfl, rfl, S, self, fun h₁ C D h' tk' O Sc => ?_⟩
  refine r_clIf (h₀ := h₁) (env := compEnvC scope cl C env) (H C) acc muF (fun i m h hi S => hsrc h₁ C D O i m h hi S) (Sc.begin h0) (turn h₁ C D O) fun m h tk S => ?_
  exact ⟨⟨_, rfl⟩, _, _, _, _, _, rfl, S, fun h₆ tk₆ S' => done D h₆ tk₆ S'⟩


/-! range, the target a cell -/
noncomputable def cellRng (a c : Int) : Nat → MO
  | 0 => .cellU
  | i + 1 => .cellD (.int (a + c * i))
theorem cellRng_ok {a c : Int} {i : Nat} : cellRng a c i = .cellU ∨ (∃ v₀, cellRng a c i = .cell v₀) ∨ ∃ d, cellRng a c i = .cellD d := by
  cases i with
  | zero => exact .inl rfl
  | succ i => exact .inr (.inr ⟨_, rfl⟩)
noncomputable abbrev rngCMo (I ce : Addr) (a c : Int) (N : Nat) (i : Nat) : List (Addr × MO) := [(I, .obj (rngObj (a + c * i) ((N : Int) - i) c)), (ce, cellRng a c i)]
theorem head_rngC {x : Str} {p : Pos} {I ce : Addr} {a c : Int} {N : Nat} (hh : A.handled = none) (hx : env.kindOf x = some .cell) (hc : env.cells.lookup x = some ce) (hk : env.scope.kind = .function) :
    Head prog w A g dr os K mg mb env (.Name x p) (.ref I) (fun _ => True) (rngCMo I ce a c N) N (fun i b f => b = [] ∧ f = []) := by
  intro i h₀ m mu fs h tk B Z hi _ S hZ hB
  have hit : IsRangeIter h I (a + c * i) ((N : Int) - i) c := (S.mo (.head _) : (MO.obj _).Is prog w h I).1
  rcases Nat.lt_or_eq_of_le hi with hlt | rfl
  · refine wpAny_pyNext_range_item hit (by omega) fun h' hit' hs' => ?_
    have e1 : a + c * (i : Int) + c = a + c * ((i + 1 : Nat) : Int) := by push_cast; rw [Int.mul_add]; omega
    have e2 : (N : Int) - i - 1 = (N : Int) - ((i + 1 : Nat) : Int) := by push_cast; omega
    rw [e1, e2] at hit'
    have S' : St prog w K mg mb h₀ env.locals m ((I, .obj (rngObj (a + c * (i + 1 : Nat)) ((N : Int) - (i + 1 : Nat)) c)) :: (ce, cellRng a c i) :: mu) fs h' := S.turn (mu₁ := rngMo I a c N i) (mu₂ := rngMo I a c N (i + 1)) (mu := (ce, cellRng a c i) :: mu) (fun b o hb e => hs'.extBut b o (fun q => hb (by simp [q])) e)
      (fun p hp => by rw [List.mem_singleton.mp hp]; exact ⟨⟨hit', rng_notTup⟩, by simp⟩) (by simp)
    refine wpAny_pure (PySem.wpAny_assign_Name (r_storeCD (mu' := (I, .obj (rngObj (a + c * (i + 1 : Nat)) ((N : Int) - (i + 1 : Nat)) c)) :: (ce, .cellD (.int (a + c * i))) :: mu) S' (TD.int _ _) hc (.tail .head) cellRng_ok (fun h₂ tk₂ S2 => ?_) hk hx))
    exact hB hlt [] [] _ _ ⟨rfl, rfl⟩ S2
  · refine wpAny_pyNext_range_end hh hit (by omega) fun h' hs' => ?_
    exact hZ rfl _ _ (S.turn (mu₁ := rngCMo I ce a c i i) (mu₂ := []) (fun b o hb e => hs' b o (fun q => hb (by simp [q])) e) (fun p hp => nomatch hp) (by simp))

/-! enumerate over a tuple, the number's name a cell -/
noncomputable abbrev enuCMo (e it t ce : Addr) (i : Nat) : List (Addr × MO) := [(e, .enum it i), (it, .itr "tuple_iterator" #[.ref t, .int i 0]), (ce, cellRng 0 1 i)]
theorem head_enumTC {x y : Str} {px py pt : Pos} {x1} {e it t ce : Addr} {ds : List PyData} (hh : A.handled = none) (hx : env.kindOf x = some .cell) (hc : env.cells.lookup x = some ce) (hy : isLoc env y) (hk : env.scope.kind = .function) :
    Head prog w A g dr os K mg mb env (.Tuple [.Name x px, .Name y py] x1 pt) (.ref e) (fun h => TD h (.ref t) (.tuple ds)) (enuCMo e it t ce) ds.length (fun i b f => ∃ v d, ds[i]? = some d ∧ b = [(y, v)] ∧ f = [(v, d)]) := by
  intro i h₀ m mu fs h tk B Z hi T S hZ hB
  have hp : isFun env := by unfold isFun; rw [hk]; rfl
  obtain ⟨t', vs, ht, hT, r⟩ := T.isTup
  cases ht
  have hT' : h.IsTuple t vs.toArray := hT
  obtain ⟨old, he⟩ := (S.mo (.head _) : (MO.enum it i).Is prog w h e)
  have hit : h.IsTupleIter it t i := (S.mo (.tail _ (.head _)) : (MO.itr _ _).Is prog w h it)
  have hne : e ≠ it := fun q => by have := S.cx.nd; simp [q] at this
  have hl := r.length
  rcases Nat.lt_or_eq_of_le hi with hlt | rfl
  · obtain ⟨v, hv⟩ : ∃ v, vs[i]? = some v := ⟨vs[i], by simp [hl, hlt]⟩
    obtain ⟨d, hd, tv⟩ := r.getV hv
    refine enum_step (P := fun h' => h'.IsTupleIter it t (i + 1)) he hne (fun A R E hR => nextOfT_item hit hT' (by simpa using hv) hR) fun h₁ h₂ hP ho hs₁ ht₂ hz₂ hs₂ => ?_
    refine wpAny_letOwnedTupleGo_enum ho fun h₃ he₃ hs₃ => ?_
    replace hs₃ : Heap.SameBut e h₂ h₃ := hs₃
    have hit₃ : h₃.IsTupleIter it t (i + 1) := by obtain ⟨o, go, ro⟩ := hP; exact ⟨o, hs₃.extBut _ _ (Ne.symm hne) (hs₁ _ _ (Ne.symm hne) go), ro⟩
    have hs : ∀ b o, b ∉ (enuMo e it t i).map (·.1) → h.get? b = some o → h₃.get? b = some o := fun b o hb q => by
      simp at hb
      exact hs₃.extBut _ _ hb.1 (hs₂ _ _ hb.1 hb.2 q)
    have S' : St prog w K mg mb h₀ env.locals m (enuMo e it t (i + 1) ++ (ce, cellRng 0 1 i) :: mu) fs h₃ := S.turn (mu₁ := enuMo e it t i) (mu₂ := enuMo e it t (i + 1)) (mu := (ce, cellRng 0 1 i) :: mu) hs
      (fun p hp => by
        rcases List.mem_cons.mp hp with rfl | hp
        · exact ⟨⟨_, by simpa using he₃⟩, by simp⟩
        · rw [List.mem_singleton.mp hp]; exact ⟨hit₃, by simp⟩) (by simp [hne])
    have tv' : TD h₃ v d := tv.mono (S.tle fun b o _ hb q => hs b o (fun q' => hb (by rw [List.map_append]; simp at q' ⊢; rcases q' with h | h <;> simp [h])) q)
    have hlt' : e < h.objs.size := Heap.lt_size he
    have ht₃ : h₃.IsTuple h.objs.size #[.int i tk, v] := ⟨_, hs₃.extBut _ _ (Nat.ne_of_gt hlt') ht₂, rfl, _, rfl⟩
    refine wpAny_assign_Tuple hh ht₃ rfl rfl fun h₄ hx₄ => ?_
    replace hx₄ : Heap.ExtBut h₃.objs.size h₃ h₄ := hx₄
    have le : Le h₃ h₄ := fun b o e => hx₄ b o (Nat.ne_of_lt (Heap.lt_size e)) e
    have S4 := (S'.fact tv').ext le
    show wpAny _ A (do holding [v] (assign (.Name x px) env (.int i tk)); do holding [] (assign (.Name y py) env v); pure ()) _ _ _
    refine wpAny_bind (wpAny_holding (PySem.wpAny_assign_Name (r_storeCD (mu' := enuMo e it t (i + 1) ++ (ce, .cellD (.int (0 + 1 * i))) :: mu) S4 (by rw [show (0 : Int) + 1 * i = i by omega]; exact TD.int _ _) hc (.tail (.tail .head)) cellRng_ok (fun h₅ tk₅ S5 => ?_) hk hx)))
    refine wpAny_bind (wpAny_holding (PySem.wpAny_assign_Name (wpAny_storeName_local hy S5.ns (fun h₆ hn₆ hs₆ => wpAny_pure ?_) hp)))
    exact hB hlt _ [(v, d)] _ _ ⟨v, d, hd, rfl, rfl⟩ (S5.loc hn₆ hs₆.extBut)
  · refine enum_endT hh he hit hT' (by simp [hl]) fun h' hs' => ?_
    exact hZ rfl _ _ (S.turn (mu₁ := enuCMo e it t ce ds.length) (mu₂ := []) (fun b o hb q => hs' b o (fun q' => hb (by simp [q'])) q) (fun p hp => nomatch hp) (by simp))

/-- a new object of a callee taken into the frame -/
theorem St.adopt {a : Addr} {mo : MO} (S : St prog w K mg mb h₀ L m mu fs h) (l : Le h h') (hi : mo.Is prog w h' a) (hn : h.get? a = none) : St prog w K mg mb h₀ L m ((a, mo) :: mu) fs h' := by
  have S' := S.ext l
  have h0 : h₀.get? a = none := by
    cases q : h₀.get? a with
    | none => rfl
    | some o => rw [S.cx.keep _ _ q] at hn; cases hn
  refine ⟨⟨S'.cx.gd, S'.cx.keep, fun p hp => ?_, ?_, S'.cx.tds⟩, S'.ns, S'.off, fun p hp => ?_⟩
  · rcases List.mem_cons.mp hp with rfl | hp
    · exact ⟨hi, h0⟩
    · exact S'.cx.mus p hp
  · rw [List.map_cons, List.nodup_cons]
    refine ⟨fun q => ?_, S'.cx.nd⟩
    obtain ⟨p, hp, e⟩ := List.mem_map.mp q
    obtain ⟨o', e'⟩ := (S.cx.mus p hp).1.ex
    have e2 : p.1 = a := e
    rw [e2, hn] at e'; cases e'
  · rcases List.mem_cons.mp hp with rfl | hp
    · intro q
      obtain ⟨oL, _, _, eL, _⟩ := S.ns
      have q' : a = L := q
      rw [← q', hn] at eL; cases eL
    · exact S'.ne p hp
theorem r_cellI {x : Str} {pos : Pos} {c : Addr} {i : Int} {Q : Value → Shared → Prop} (hc : env.cells.lookup x = some c) (hm : (MO.cellD (.int i)).Is prog w h c) (k : ∀ t, Q (.int i t) ⟨h, g, dr, tk, os⟩)
    (hk : env.scope.kind = .function := by k_dflt rfl) (hl : env.kindOf x = some .cell := by k_dflt rfl) (hd : (x == ("__debug__" : Str)) = false := by k_dflt decide) :
    wpAny (model prog w) A (eval (.Name x pos) env) Q E ⟨h, g, dr, tk, os⟩ := by
  obtain ⟨v, hv, T⟩ := hm
  obtain ⟨t, rfl⟩ := T.int_inv
  exact r_cell hc hv (k t) hk hl hd
/-- a cell's value read as data -/
theorem St.asD {c : Addr} {v : Value} {d : PyData} (S : St prog w K mg mb h₀ L m mu fs h) (u : Up c (.cell v) (.cellD d) mu mu') (T : TD h v d) : St prog w K mg mb h₀ L m mu' fs h :=
  S.upd u ⟨v, S.mo u.mem, T⟩ (Heap.ExtBut.refl c h)
theorem r_setS {d : Addr} {x : Str} {t : Tok} {v : Value} {kvs kvs' : List (Str × Value)} {Q : Unit → Shared → Prop} (S : St prog w K mg mb h₀ L m mu fs h) (u : Up d (.sd kvs) (.sd kvs') mu mu') (e : PySem.stored kvs x v = kvs')
    (k : ∀ h' tk', St prog w K mg mb h₀ L m mu' fs h' → Q () ⟨h', g, dr, tk', os⟩) (hsz : kvs.length ≤ sizeLine) : wpAny (model prog w) A (setItem (.ref d) (.str x t) v) Q E ⟨h, g, dr, tk, os⟩ :=
  wpAny_setItem_pairs (hsz := hsz) strIs (S.mo u.mem) fun h' hm hs => k _ _ (S.upd u (e ▸ hm) hs.extBut)
theorem r_getSD {value slice : Expr} {d : Addr} {x : Str} {t : Tok} {v : Value} {kvs : List (Str × Value)} {Q : Value → Shared → Prop} (hm : (MO.sd kvs).Is prog w h d) (hv : PySem.valueAt kvs x = some v)
    (k : ∀ tk', Q v ⟨h, g, dr, tk', os⟩)
    (hs : subscripted slice false (.ref d) (.str x t) = operate [.ref d, .str x t] (getItem (.ref d) (.str x t)) := by with_unfolding_all rfl) :
    wpAny (model prog w) A (subscriptTail value slice (.ref d) (.str x t)) Q E ⟨h, g, dr, tk, os⟩ := r_getS hm hv k hs
noncomputable abbrev feedKv (rl : Addr) (k : Int) (t : Tok) : List (Str × Value) := [(Str.ofString "row", .ref rl), (Str.ofString "at", .int k t)]
theorem r_feedRow {value slice : Expr} {d rl : Addr} {n : Int} {t tn : Tok} {Q : Value → Shared → Prop} (hm : (MO.sd (feedKv rl n tn)).Is prog w h d) (k : ∀ tk', Q (.ref rl) ⟨h, g, dr, tk', os⟩)
    (hs : subscripted slice false (.ref d) (.str (Str.ofString "row") t) = operate [.ref d, .str (Str.ofString "row") t] (getItem (.ref d) (.str (Str.ofString "row") t)) := by with_unfolding_all rfl) :
    wpAny (model prog w) A (subscriptTail value slice (.ref d) (.str (Str.ofString "row") t)) Q E ⟨h, g, dr, tk, os⟩ := r_getS (v := .ref rl) hm (by rfl) k hs
theorem r_feedAt {value slice : Expr} {d rl : Addr} {n : Int} {t tn : Tok} {Q : Value → Shared → Prop} (hm : (MO.sd (feedKv rl n tn)).Is prog w h d) (k : ∀ tk', Q (.int n tn) ⟨h, g, dr, tk', os⟩)
    (hs : subscripted slice false (.ref d) (.str (Str.ofString "at") t) = operate [.ref d, .str (Str.ofString "at") t] (getItem (.ref d) (.str (Str.ofString "at") t)) := by with_unfolding_all rfl) :
    wpAny (model prog w) A (subscriptTail value slice (.ref d) (.str (Str.ofString "at") t)) Q E ⟨h, g, dr, tk, os⟩ := r_getS (v := .int n tn) hm (by rfl) k hs
theorem r_feedSet {d rl : Addr} {n n' : Int} {t tn tn' : Tok} {Q : Unit → Shared → Prop} (S : St prog w K mg mb h₀ L m mu fs h) (u : Up d (.sd (feedKv rl n tn)) (.sd (feedKv rl n' tn')) mu mu')
    (k : ∀ h' tk', St prog w K mg mb h₀ L m mu' fs h' → Q () ⟨h', g, dr, tk', os⟩) : wpAny (model prog w) A (setItem (.ref d) (.str (Str.ofString "at") t) (.int n' tn')) Q E ⟨h, g, dr, tk, os⟩ :=
  r_setS S u (by rfl) k (by simp [sizeLine])
/-- a callee that may turn the feed alone -/
theorem St.feedCx {fd rl : Addr} {b : Int} (S : St prog w K mg mb h₀ L m mu fs h) (hm : (fd, .feed rl b) ∈ mu) : ∃ k t, 0 ≤ k ∧ k ≤ b ∧ Cx prog w K mg mb (hideAll h [fd]) [(fd, .sd (feedKv rl k t))] [] h := by
  obtain ⟨k, t, h1, h2, hd⟩ := S.mo hm
  have off := (S.cx.mus _ hm).2
  refine ⟨k, t, h1, h2, ⟨S.cx.gd.le fun b o e => hideAll_get _ (S.cx.keep b o e) fun q => ?_, fun b o e => of_hideAll _ e, fun p hp => ?_, by simp, fun p hp => nomatch hp⟩⟩
  · rw [List.mem_singleton.mp q] at e
    rw [off] at e; cases e
  · rw [List.mem_singleton.mp hp]
    exact ⟨hd, hideAll_none _ (by simp)⟩
theorem St.fed {fd rl : Addr} {b b' : Int} {L' : Addr} {m'} {fs'} {k : Int} {t : Tok} (S : St prog w K mg mb h₀ L m mu fs h) (u : Up fd (.feed rl b) (.feed rl b') mu mu') (S' : St prog w K mg mb (hideAll h [fd]) L' m' [(fd, .sd (feedKv rl k t))] fs' h') (h0 : 0 ≤ k) (h1 : k ≤ b') :
    St prog w K mg mb h₀ L m mu' fs h' :=
  S.upd u ⟨k, t, h0, h1, S'.mo (.head _)⟩ fun b o hb e => S'.cx.keep b o (hideAll_get _ e (by simpa using hb))
theorem MO.Is.le {a : Addr} {mo : MO} (x : mo.Is prog w h a) (k : Le h h') : mo.Is prog w h' a := x.at k.tle fun o => k _ o
theorem r_iterLd {l : Addr} {ds : List PyData} {Q : Value → Shared → Prop} (S : St prog w K mg mb h₀ L m mu fs h) (x : (MO.ld ds).Is prog w h l)
    (k : ∀ I h' tk', Le h h' → St prog w K mg mb h₀ L m (lstMo I l 0 ++ mu) fs h' → Q (.ref I) ⟨h', g, dr, tk', os⟩) : wpAny (model prog w) A (pyIter (.ref l)) Q E ⟨h, g, dr, tk, os⟩ := by
  obtain ⟨vs, hl, _⟩ := MO.isL x
  exact r_iterList S hl k
theorem r_itemLI {value slice : Expr} {a : Addr} {ds : List PyData} {i z : Int} {u : Tok} {Q : Value → Shared → Prop} (x : (MO.ld ds).Is prog w h a) (h0 : 0 ≤ i) (h1 : i < 2 ^ 63) (e : ds[i.toNat]? = some (.int z))
    (k : ∀ t, Q (.int z t) ⟨h, g, dr, tk, os⟩)
    (hs : subscripted slice false (.ref a) (.int i u) = operate [.ref a, .int i u] (getItem (.ref a) (.int i u)) := by with_unfolding_all rfl) :
    wpAny (model prog w) A (subscriptTail value slice (.ref a) (.int i u)) Q E ⟨h, g, dr, tk, os⟩ := by
  obtain ⟨vs, n, e0, r⟩ := x
  obtain ⟨v, hv, tv⟩ := r.get e
  obtain ⟨t, rfl⟩ := tv.int_inv
  exact tail_any (T := "list") (lobj_isList e0).typeIs slot_list_getitem.lookup (wpAny_getItem_list (lobj_isList e0) h0 h1 (by simpa using hv) (k t)) hs
/-- tuple of a list -/
theorem r_tupL {l : Addr} {ds : List PyData} {Q : Value → Shared → Prop} (S : St prog w K mg mb h₀ L m mu fs h) (x : (MO.ld ds).Is prog w h l)
    (k : ∀ a h' tk', Le h h' → St prog w K mg mb h₀ L m mu ((.ref a, .tuple ds) :: fs) h' → Q (.ref a) ⟨h', g, dr, tk', os⟩) (hsz : ds.length ≤ sizeLine) :
    wpAny (model prog w) A (call (.type "tuple") [.ref l]) Q E ⟨h, g, dr, tk, os⟩ := by
  obtain ⟨vs, n, e, r⟩ := x
  refine call_tuple_list (lobj_isList e) (fun h' hk => ?_) (by simpa [r.length] using hsz)
  have l1 : Le h (h'.push { cls := .type "tuple", data := .seq vs.toArray }) := fun b o q => Heap.get?_push_of_some _ (hk b o q)
  exact k _ _ _ l1 ((S.ext l1).fact (tdNew (r.mono (fun p o us j q _ _ => hk p o q))))
end
/-- the part of a term at a path -/
noncomputable def Tm.at : Tm → Path → Option Tm
  | t, [] => some t
  | t, k :: r => if 0 ≤ k then (t.kids[k.toNat]?).bind fun u => u.at r else none
theorem Tm.at_append : ∀ (p q : Path) (t : Tm), t.at (p ++ q) = (t.at p).bind fun u => u.at q
  | [], q, t => by simp [Tm.at]
  | k :: p, q, t => by
    simp only [List.cons_append, Tm.at]
    by_cases h : 0 ≤ k
    · simp only [h, if_true]
      cases t.kids[k.toNat]? with
      | none => rfl
      | some u => simp [Tm.at_append p q u]
    · simp [h]
theorem Tm.at_step {t u : Tm} {p : Path} {i : Nat} (h : t.at p = some u) (hi : i < p.length) : ∃ k w x, p[i]? = some k ∧ 0 ≤ k ∧ t.at (p.take i) = some w ∧ w.kids[k.toNat]? = some x ∧ t.at (p.take (i + 1)) = some x := by
  have e := List.take_append_drop i p
  rw [← e, Tm.at_append] at h
  cases hw : t.at (p.take i) with
  | none => rw [hw] at h; cases h
  | some w =>
    rw [hw] at h
    have hd : p.drop i = p[i] :: p.drop (i + 1) := List.drop_eq_getElem_cons hi
    rw [hd] at h
    simp only [Option.bind_some, Tm.at] at h
    by_cases h0 : 0 ≤ p[i]
    · simp only [h0, if_true] at h
      cases hx : w.kids[(p[i]).toNat]? with
      | none => rw [hx] at h; cases h
      | some x =>
        refine ⟨p[i], w, x, by simp [hi], h0, rfl, hx, ?_⟩
        rw [List.take_add_one, Tm.at_append, hw]
        simp [hi, Tm.at, h0, hx]
    · simp [h0] at h
theorem mem_zT {x : Tm} : ∀ {l : List Tm}, x ∈ l → x.size ≤ zT l
  | a :: l, hm => by
    simp only [zT]
    rcases List.mem_cons.mp hm with rfl | hm
    · omega
    · have := mem_zT hm; omega
theorem Tm.at_size {t u : Tm} {p : Path} (h : t.at p = some u) : u.size ≤ t.size := by
  induction p generalizing t with
  | nil => simp [Tm.at] at h; subst h; exact Nat.le_refl _
  | cons k r ih =>
    simp only [Tm.at] at h
    split at h
    · cases hx : t.kids[k.toNat]? with
      | none => rw [hx] at h; cases h
      | some x =>
        rw [hx] at h
        have := ih h
        have hm := List.mem_of_getElem? hx
        have : x.size ≤ zT t.kids := mem_zT hm
        have := t.size_kids
        omega
    · cases h
theorem mem_zP {x : Pap} : ∀ {l : List Pap}, x ∈ l → x.size ≤ zP l
  | a :: l, hm => by
    simp only [zP]
    rcases List.mem_cons.mp hm with rfl | hm
    · omega
    · have := mem_zP hm; omega
noncomputable abbrev qp (x : Path × Pap) : PyData := .tuple [pt x.1, x.2.d]
noncomputable def kqN (q : Path) (n : Nat) (ps : List Pap) : List (Path × Pap) := ps.mapIdx fun i p => (q ++ [((i + n : Nat) : Int)], p)
theorem kqN_post (q : Path) : ∀ (ps : List Pap) (n : Nat), (kqN q n ps).flatMap (fun x => post x.1 x.2) = postL q n ps
  | [], n => rfl
  | p :: r, n => by
    have := kqN_post q r (n + 1)
    simp only [kqN, List.mapIdx_cons, List.flatMap_cons, postL, Nat.zero_add] at this ⊢
    rw [← this]
    congr 3
    simp only [Nat.add_assoc, Nat.add_comm 1]
noncomputable def zW : List (Path × Pap) → Nat
  | [] => 0
  | x :: r => x.2.size + zW r
theorem zW_append : ∀ a b, zW (a ++ b) = zW a + zW b
  | [], b => by simp [zW]
  | x :: a, b => by simp [zW, zW_append a b]; omega
theorem len_zW : ∀ l, l.length ≤ zW l
  | [] => Nat.le_refl _
  | t :: r => by have := len_zW r; have := t.2.size_pos; simp [zW]; omega
theorem zW_kqN (q : Path) : ∀ (ps : List Pap) (n : Nat), zW (kqN q n ps) = zP ps
  | [], n => rfl
  | p :: r, n => by
    have := zW_kqN q r (n + 1)
    simp only [kqN, List.mapIdx_cons, zW, zP] at this ⊢
    rw [← this]
    congr 3
    simp only [Nat.add_assoc, Nat.add_comm 1]
theorem kqN_mem {q : Path} {n : Nat} {ps : List Pap} {x : Path × Pap} (h : x ∈ kqN q n ps) : x.2 ∈ ps := by
  simp only [kqN, List.mem_mapIdx] at h
  obtain ⟨i, hi, rfl⟩ := h
  exact List.getElem_mem _
theorem kqN_get {q : Path} {n i : Nat} {ps : List Pap} {p : Pap} (h : ps[i]? = some p) : (kqN q n ps)[i]? = some (q ++ [((i + n : Nat) : Int)], p) := by
  simp only [kqN, List.getElem?_mapIdx, h]; rfl
theorem kqN_len {q : Path} {n : Nat} {ps : List Pap} : (kqN q n ps).length = ps.length := by simp [kqN]
/-- the first i + 1 of a list -/
theorem take_next {α : Type} {l : List α} {i : Nat} {x : α} (h : l[i]? = some x) : l.take (i + 1) = l.take i ++ [x] := by
  rw [List.take_add_one, h]; rfl
/-- plain data of bounded depth -/
noncomputable def lay (n : Nat) (d : PyData) : Prop := d.canLay0 = true ∧ d.depth ≤ n
theorem canAll : ∀ {ds : List PyData}, PyData.canLayAll0 ds = true ↔ ∀ d ∈ ds, d.canLay0 = true
  | [] => by simp [PyData.canLayAll0]
  | d :: r => by simp [PyData.canLayAll0, canAll (ds := r)]
theorem depAll {n : Nat} : ∀ {ds : List PyData}, PyData.depthAll ds ≤ n ↔ ∀ d ∈ ds, d.depth ≤ n
  | [] => by simp [PyData.depthAll]
  | d :: r => by simp [PyData.depthAll, Nat.max_le, depAll (ds := r)]
theorem lay_tup {n : Nat} {ds : List PyData} (h : ∀ d ∈ ds, lay n d) : lay (n + 1) (.tuple ds) :=
  ⟨by simp only [PyData.canLay0]; exact canAll.mpr fun d hd => (h d hd).1, by simp only [PyData.depth]; exact Nat.succ_le_succ (depAll.mpr fun d hd => (h d hd).2)⟩
theorem lay_list {n : Nat} {ds : List PyData} (h : ∀ d ∈ ds, lay n d) : lay (n + 1) (.list ds) :=
  ⟨by simp only [PyData.canLay0]; exact canAll.mpr fun d hd => (h d hd).1, by simp only [PyData.depth]; exact Nat.succ_le_succ (depAll.mpr fun d hd => (h d hd).2)⟩
theorem lay.le {n k : Nat} {d : PyData} (h : lay n d) (l : n ≤ k) : lay k d := ⟨h.1, Nat.le_trans h.2 l⟩
theorem lay_int (n : Nat) (i : Int) : lay n (.int i) := ⟨rfl, Nat.zero_le _⟩
theorem lay_bool (n : Nat) (i : Bool) : lay n (.bool i) := ⟨rfl, Nat.zero_le _⟩
theorem lay_str (n : Nat) {x : Str} (h : (PyData.str x).canLay0 = true) : lay n (.str x) := ⟨h, Nat.zero_le _⟩
theorem lay.shaped {d : PyData} {n : Nat} (h : lay n d) (hn : n ≤ 64) : SeqAt.shaped d = true := by
  unfold SeqAt.shaped
  rw [h.1]
  have := h.2
  simp
  omega
theorem lay_gOp {o : Str} (h : o ∈ gOps) (n : Nat) : lay n (.str o) := by
  refine lay_str n ?_
  simp only [gOps, List.mem_cons, List.not_mem_nil, or_false] at h
  rcases h with rfl | rfl | rfl | rfl | rfl | rfl <;> (simp only [PyData.canLay0]; decide +kernel)
theorem lay_pt (n : Nat) (p : Path) : lay (n + 1) (pt p) := lay_tup fun d hd => by
  obtain ⟨i, _, rfl⟩ := List.mem_map.mp hd
  exact lay_int _ _

/-- terms of bounded height over the good ops -/
noncomputable def Tm.fit : Nat → Tm → Prop
  | 0, _ => False
  | n + 1, t => t.op ∈ gOps ∧ ∀ k ∈ t.kids, k.fit n
theorem Tm.fit.lay : ∀ {n : Nat} {t : Tm}, t.fit n → Mine.lay n t.d
  | n + 1, t, h => by
    rw [Tm.d_eq]
    refine lay_tup fun d hd => ?_
    rcases List.mem_cons.mp hd with rfl | hd
    · exact lay_gOp h.1 _
    · obtain ⟨k, hk, rfl⟩ := List.mem_map.mp hd
      exact (h.2 k hk).lay
theorem Tm.fit.ok : ∀ {n : Nat} {t : Tm}, t.fit n → t.ok
  | n + 1, t, h => (Tm.ok_iff t).mpr ⟨h.1, fun k hk => (h.2 k hk).ok⟩
theorem Tm.fit.le : ∀ {n k : Nat} {t : Tm}, t.fit n → n ≤ k → t.fit k
  | n + 1, k + 1, t, h, l => ⟨h.1, fun x hx => (h.2 x hx).le (Nat.le_of_succ_le_succ l)⟩
theorem Tm.fit.at : ∀ {p : Path} {n : Nat} {t u : Tm}, t.fit n → t.at p = some u → u.fit n
  | [], n, t, u, h, e => by simp [Tm.at] at e; subst e; exact h
  | k :: p, n + 1, t, u, h, e => by
    simp only [Tm.at] at e
    split at e
    · cases hx : t.kids[k.toNat]? with
      | none => rw [hx] at e; cases e
      | some x => rw [hx] at e; exact (Tm.fit.at (h.2 x (List.mem_of_getElem? hx)) e).le (Nat.le_succ n)
    · cases e

noncomputable def Pap.isSame : Pap → Bool
  | .same _ => true
  | _ => false
noncomputable def Pap.tm : Pap → Tm
  | .same t => t
  | _ => .mk "" []
theorem Pap.kind_d (p : Pap) : ∃ x r, p.d = .tuple (.str x :: r) ∧ (x == "same") = p.isSame := by
  cases p <;> exact ⟨_, _, by simp only [Pap.d]; rfl, by simp only [Pap.isSame]; decide⟩
theorem Pap.same_d {p : Pap} (h : p.isSame = true) : p.d = .tuple [.str "same", p.tm.d] := by
  cases p <;> simp_all [Pap.isSame, Pap.d, Pap.tm]
/-- what `under` makes -/
noncomputable def un (o : Str) (ps : List Pap) : Pap := if ps.all Pap.isSame then .same (.mk o (ps.map Pap.tm)) else .under o ps
theorem filter_same {ps : List Pap} : ps.filter (fun p => !p.isSame) = [] ↔ ps.all Pap.isSame = true := by
  simp [List.filter_eq_nil_iff]

theorem lay_kid {n : Nat} {ds : List PyData} (h : lay (n + 1) (.tuple ds)) : ∀ d ∈ ds, lay n d := fun d hd => by
  obtain ⟨h1, h2⟩ := h
  simp only [PyData.canLay0] at h1
  simp only [PyData.depth] at h2
  exact ⟨canAll.mp h1 d hd, depAll.mp (Nat.le_of_succ_le_succ h2) d hd⟩
theorem lay_kind (n : Nat) {x : Str} (h : x ∈ (["same", "under", "told", "turn", "join"] : List Str)) : lay n (.str x) := by
  refine lay_str n ?_
  simp only [List.mem_cons, List.not_mem_nil, or_false] at h
  rcases h with rfl | rfl | rfl | rfl | rfl <;> (simp only [PyData.canLay0]; decide +kernel)
theorem lay_pos {n : Nat} {p : Pap} (h : lay n p.d) : ∃ k, n = k + 1 := by
  cases n with
  | zero => obtain ⟨_, h2⟩ := h; cases p <;> simp [Pap.d, PyData.depth] at h2
  | succ k => exact ⟨k, rfl⟩
theorem un_lay {n : Nat} {o : Str} {ps : List Pap} (h : ∀ p ∈ ps, lay n p.d) (ho : o ∈ gOps) : lay (n + 2) (un o ps).d := by
  unfold un
  split
  · rename_i hs
    have hs := List.all_eq_true.mp hs
    have hk : ∀ p ∈ ps, lay n p.tm.d := fun p hp => by
      have := h p hp
      obtain ⟨k, rfl⟩ := lay_pos this
      rw [Pap.same_d (hs p hp)] at this
      exact (lay_kid this _ (by simp)).le (Nat.le_succ _)
    rw [show (Pap.same (.mk o (ps.map Pap.tm))).d = .tuple [.str "same", (Tm.mk o (ps.map Pap.tm)).d] by simp only [Pap.d]]
    refine lay_tup fun d hd => ?_
    rcases List.mem_cons.mp hd with rfl | hd
    · exact lay_kind _ (by simp)
    · rw [List.mem_singleton.mp hd, Tm.d_eq]
      refine lay_tup fun d hd => ?_
      rcases List.mem_cons.mp hd with rfl | hd
      · exact lay_gOp ho _
      · obtain ⟨x, hx, rfl⟩ := List.mem_map.mp hd
        obtain ⟨p, hp, rfl⟩ := List.mem_map.mp hx
        exact hk p hp
  · rw [show (Pap.under o ps).d = .tuple [.str "under", .str o, .tuple (ps.map Pap.d)] by simp only [Pap.d, dP_map]]
    refine lay_tup fun d hd => ?_
    simp only [List.mem_cons, List.not_mem_nil, or_false] at hd
    rcases hd with rfl | rfl | rfl
    · exact lay_kind _ (by simp)
    · exact lay_gOp ho _
    · refine lay_tup fun d hd => ?_
      obtain ⟨p, hp, rfl⟩ := List.mem_map.mp hd
      exact h p hp
/-- the late term -/
noncomputable def dn : Tm → Path → Tm → Tm
  | _, [], l => l
  | t, k :: r, l => match t.kids[k.toNat]? with
    | some u => .mk t.op (t.kids.set k.toNat (dn u r l))
    | none => l
theorem cut_set {α : Type} {l : List α} {n : Nat} {a : α} (h : n < l.length) : l.take n ++ [a] ++ l.drop (n + 1) = l.set n a := by
  rw [List.set_eq_take_append_cons_drop, if_pos h]; simp
/-- one level of `within` -/
noncomputable def stepW (t : Tm) (k : Int) (q : Pap) : Pap := un t.op (t.kids.mapIdx fun j kid => if (j : Int) = k then q else .same kid)
noncomputable def wi : Tm → Path → Pap → Pap
  | t, [], p => p
  | t, k :: r, p => match t.kids[k.toNat]? with
    | some u => stepW t k (wi u r p)
    | none => p
theorem wi_step {w x : Tm} {p : Path} {i : Nat} {k : Int} {q : Pap} (hk : p[i]? = some k) (hx : w.kids[k.toNat]? = some x) : wi w (p.drop i) q = stepW w k (wi x (p.drop (i + 1)) q) := by
  have hi : i < p.length := (List.getElem?_eq_some_iff.mp hk).1
  have hd : p.drop i = p[i] :: p.drop (i + 1) := List.drop_eq_getElem_cons hi
  have : p[i] = k := by rw [List.getElem?_eq_getElem hi] at hk; exact Option.some.inj hk
  rw [hd, this, wi, hx]
/-! the parts of a term, each with its path -/
mutual
noncomputable def pcs : Tm → List (Path × Tm)
  | .mk o ks => ([], .mk o ks) :: pcsL 0 ks
noncomputable def pcsL (i : Nat) : List Tm → List (Path × Tm)
  | [] => []
  | t :: r => (pcs t).map (fun x => ((i : Int) :: x.1, x.2)) ++ pcsL (i + 1) r
end
theorem pcs_eq (t : Tm) : pcs t = ([], t) :: pcsL 0 t.kids := by cases t; simp only [pcs, Tm.kids]
mutual
theorem pcs_len : ∀ t, (pcs t).length = t.size
  | .mk o ks => by simp [pcs, Tm.size, pcsL_len 0 ks]; omega
theorem pcsL_len (i : Nat) : ∀ l, (pcsL i l).length = zT l
  | [] => rfl
  | t :: r => by simp [pcsL, zT, pcs_len t, pcsL_len (i + 1) r]
end
/-- each piece is the part at its path -/
theorem pcsL_mem : ∀ {l : List Tm} {i : Nat} {x : Path × Tm}, x ∈ pcsL i l → ∃ j t y, l[j]? = some t ∧ y ∈ pcs t ∧ x = (((i + j : Nat) : Int) :: y.1, y.2)
  | [], i, x, h => by simp [pcsL] at h
  | t :: r, i, x, h => by
    simp only [pcsL, List.mem_append] at h
    rcases h with h | h
    · obtain ⟨y, hy, rfl⟩ := List.mem_map.mp h
      exact ⟨0, t, y, rfl, hy, rfl⟩
    · obtain ⟨j, u, y, hu, hy, rfl⟩ := pcsL_mem h
      exact ⟨j + 1, u, y, hu, hy, by rw [show i + 1 + j = i + (j + 1) by omega]⟩
theorem pcs_at : ∀ (n : Nat) {t : Tm} {x : Path × Tm}, t.size ≤ n → x ∈ pcs t → t.at x.1 = some x.2
  | 0, t, x, hn, h => by have := t.size_pos; omega
  | n + 1, t, x, hn, h => by
    rw [pcs_eq] at h
    rcases List.mem_cons.mp h with rfl | h
    · rfl
    · obtain ⟨j, u, y, hu, hy, rfl⟩ := pcsL_mem h
      have h1 := mem_zT (List.mem_of_getElem? hu)
      have h2 := t.size_kids
      have := pcs_at n (t := u) (x := y) (by omega) hy
      simp only [Tm.at]
      rw [if_pos (by omega), show ((0 + j : Nat) : Int).toNat = j by omega, hu]
      exact this
theorem pcs_short : ∀ (n : Nat) {t : Tm} {x : Path × Tm}, t.size ≤ n → x ∈ pcs t → x.1.length < t.size
  | 0, t, x, hn, h => by have := t.size_pos; omega
  | n + 1, t, x, hn, h => by
    rw [pcs_eq] at h
    rcases List.mem_cons.mp h with rfl | h
    · exact t.size_pos
    · obtain ⟨j, u, y, hu, hy, rfl⟩ := pcsL_mem h
      have h1 := mem_zT (List.mem_of_getElem? hu)
      have h2 := t.size_kids
      have := pcs_short n (t := u) (x := y) (by omega) hy
      simp only [List.length_cons]
      omega
theorem pcs_high : ∀ (n : Nat) {t : Tm} {x : Path × Tm}, t.fit n → x ∈ pcs t → x.1.length < n
  | n + 1, t, x, hf, h => by
    rw [pcs_eq] at h
    rcases List.mem_cons.mp h with rfl | h
    · exact Nat.succ_pos n
    · obtain ⟨j, u, y, hu, hy, rfl⟩ := pcsL_mem h
      have := pcs_high n (hf.2 u (List.mem_of_getElem? hu)) hy
      simp only [List.length_cons]
      omega
theorem pcsL_snoc : ∀ (l : List Tm) (j : Nat) (t : Tm), pcsL j (l ++ [t]) = pcsL j l ++ (pcs t).map fun x => (((j + l.length : Nat) : Int) :: x.1, x.2)
  | [], j, t => by simp [pcsL]
  | a :: l, j, t => by
    simp only [List.cons_append, pcsL, List.append_assoc, List.length_cons, pcsL_snoc l (j + 1) t]
    rw [show j + 1 + l.length = j + (l.length + 1) by omega]
theorem pcsL_next {l : List Tm} {i : Nat} {t : Tm} (h : l[i]? = some t) : pcsL 0 (l.take (i + 1)) = pcsL 0 (l.take i) ++ (pcs t).map fun x => ((i : Int) :: x.1, x.2) := by
  have hi := (List.getElem?_eq_some_iff.mp h).1
  rw [take_next h, pcsL_snoc, Nat.zero_add, List.length_take, Nat.min_eq_left (Nat.le_of_lt hi)]
theorem nd4 {a b c d : Addr} (h : [a, b, c, d].Nodup) : [a, b, d, c].Nodup := (((List.Perm.swap d c []).cons b).cons a).nodup_iff.mp h
section
variable {prog : Program} {w : World} {K : Frag} {mg mb : Str → Option Value} {h₀ h h' : Heap} {L : Addr} {m m' : Str → Option Value} {mu mu' mu₁ mu₂ : List (Addr × MO)} {fs fs' : List (Value × PyData)}
  {A : Around} {E : Value → Shared → Prop} {g : Array GenState} {dr : Drawn} {os : OsState} {tk : Nat} {env : Env}

/-! a comprehension whose list is not told ahead -/
theorem r_clE {elt target iter : Expr} {scope : Scope} {pos : Pos} {it : Value} {D : Addr} {src : Heap → Prop} {mo : Nat → List (Addr × MO)} {N : Nat} {Rel : Nat → List (Str × Value) → List (Value × PyData) → Prop} {R : Result → Shared → Prop}
    (H : Head prog w A g dr os K mg mb env target it src mo N Rel) (P : Nat → MO → Prop) (muF : Nat → List (Addr × MO)) (a0 : MO) (hP : P 0 a0)
    (hsrc : ∀ i a m h, i ≤ N → P i a → St prog w K mg mb h₀ env.locals m (mo i ++ (D, a) :: muF i) fs h → src h)
    (S : St prog w K mg mb h₀ env.locals m (mo 0 ++ (D, a0) :: muF 0) fs h)
    (turn : ∀ i, i < N → ∀ a, P i a → ∀ b f m h tk, Rel i b f → St prog w K mg mb h₀ env.locals (mB b m) (mo (i + 1) ++ (D, a) :: muF i) (f ++ fs) h →
      wpAny (model prog w) A (eval elt env) (fun x s₄ => wpAny (model prog w) A (call (.builtin "list.append") [.ref D, x]) (fun _ s₅ => Hold (∃ a', P (i + 1) a' ∧ Goes prog w K mg mb h₀ env.locals g dr os (mo (i + 1) ++ (D, a') :: muF (i + 1)) fs s₅)) noE s₄) noE ⟨h, g, dr, tk, os⟩)
    (done : ∀ a m h tk, P N a → St prog w K mg mb h₀ env.locals m ((D, a) :: muF N) fs h → R (.ok .next) ⟨h, g, dr, tk, os⟩) :
    codeAny (model prog w) A (.compLoop (.ListComp elt [⟨target, iter, [], 0⟩] scope pos) 0 it (.ref D) env) R ⟨h, g, dr, tk, os⟩ := by
  refine r_compLoop (fun n s => ∃ i a m h tk, i ≤ N ∧ n = N - i ∧ P i a ∧ s = ⟨h, g, dr, tk, os⟩ ∧ St prog w K mg mb h₀ env.locals m (mo i ++ (D, a) :: muF i) fs h) ?_ N ⟨0, a0, _, _, _, Nat.zero_le _, rfl, hP, rfl, S⟩
  rintro n s ⟨i, a, m, h, tk, hi, rfl, hPi, rfl, S⟩
  refine H i _ m _ fs h tk _ _ hi (hsrc i a m h hi hPi S) S (fun hN h' tk' S' => ?_) fun hlt b f h' tk' hr S' => ?_
  · subst hN; exact done _ _ _ _ hPi S'
  · refine wpAny_mono (turn i hlt a hPi b f m h' tk' hr S') (fun x s₄ h₄ => wpAny_mono h₄ (fun _ s₅ h₅ => ?_) fun _ _ e => e) fun _ _ e => e
    obtain ⟨a', hP', hG⟩ := h₅.it
    obtain ⟨m', h'', tk'', rfl, S''⟩ := hG.it
    exact ⟨N - (i + 1), by omega, i + 1, a', m', h'', tk'', hlt, rfl, hP', rfl, S''⟩

theorem r_chE {elt target iter : Expr} {scope : Scope} {pos : Pos} {cl : List (Str × Addr)} {I : Addr} {src : Heap → Prop} {mo : Nat → List (Addr × MO)} {N : Nat} {Rel : Nat → List (Str × Value) → List (Value × PyData) → Prop} {Q : Addr → Heap → Nat → Prop} {mm : Addr → Str → Option Value}
    (P : Nat → MO → Prop) (muF : Nat → List (Addr × MO)) (a0 : MO) (hP : P 0 a0)
    (S : St prog w K mg mb h₀ L m ((mo 0 ++ muF 0) ++ mu) fs h) (self : Self prog w A g dr os I (mo 0 ++ muF 0))
    (H : ∀ C, Head prog w A g dr os K mg mb (compEnvC scope cl C env) target (.ref I) src mo N Rel) (h0 : a0 = .ld [] ∨ a0 = .lst [])
    (hsrc : ∀ h₁ C D, Outer prog w K mg mb h₀ L m mu h₁ → ∀ i a m h, i ≤ N → P i a → St prog w K mg mb h₁ C m (mo i ++ (D, a) :: muF i) fs h → src h)
    (turn : ∀ h₁ C D, Outer prog w K mg mb h₀ L m mu h₁ → ∀ i, i < N → ∀ a, P i a → ∀ b f m h tk, Rel i b f → St prog w K mg mb h₁ C (mB b m) (mo (i + 1) ++ (D, a) :: muF i) (f ++ fs) h →
      wpAny (model prog w) A (eval elt (compEnvC scope cl C env)) (fun x s₄ => wpAny (model prog w) A (call (.builtin "list.append") [.ref D, x]) (fun _ s₅ => Hold (∃ a', P (i + 1) a' ∧ Goes prog w K mg mb h₁ C g dr os (mo (i + 1) ++ (D, a') :: muF (i + 1)) fs s₅)) noE s₄) noE ⟨h, g, dr, tk, os⟩)
    (done : ∀ a D h₆ tk₆, P N a → St prog w K mg mb h₀ L (mm D) ((D, a) :: (muF N ++ mu)) fs h₆ → Q D h₆ tk₆) :
    ∃ h₂ tk₂ I' muI fs₂ mu₂, Value.ref I = .ref I' ∧ (⟨h, g, dr, tk, os⟩ : Shared) = ⟨h₂, g, dr, tk₂, os⟩ ∧ St prog w K mg mb h₀ L m (muI ++ mu₂) fs₂ h₂ ∧
      (∀ (h' : Heap) (t' : Nat) (Q : Value → Shared → Prop) (E : Value → Shared → Prop), (∀ p ∈ muI, p.2.Is prog w h' p.1) → Q (.ref I') ⟨h', g, dr, t', os⟩ → wpAny (model prog w) A (pyIter (.ref I')) Q E ⟨h', g, dr, t', os⟩) ∧
      (∀ h₁ C D h' tk', Outer prog w K mg mb h₀ L m mu₂ h₁ → St prog w K mg mb h₁ C (fun _ => none) ((D, .lst []) :: muI) fs₂ h' →
        codeAny (model prog w) A (.compLoop (.ListComp elt [⟨target, iter, [], 0⟩] scope pos) 0 (.ref I') (.ref D) (compEnvC scope cl C env)) (fun r s' => (∃ f, r = .ok f) ∧ ∃ muR fs' m' h₅ tk₅, s' = ⟨h₅, g, dr, tk₅, os⟩ ∧
          St prog w K mg mb h₁ C m' muR fs' h₅ ∧ ∀ h₆ tk₆, St prog w K mg mb h₀ L (mm D) (muR ++ mu₂) fs' h₆ → Q D h₆ tk₆) ⟨h', g, dr, tk', os⟩) := by
  refine ⟨h, tk, I, mo 0 ++ muF 0, fs, mu, rfl, rfl, S, self, fun h₁ C D h' tk' O Sc => ?_⟩
  refine r_clE (h₀ := h₁) (env := compEnvC scope cl C env) (H C) P muF a0 hP (fun i a m h hi ha S => hsrc h₁ C D O i a m h hi ha S) (Sc.begin h0) (turn h₁ C D O) fun a m h tk ha S => ?_
  exact ⟨⟨_, rfl⟩, _, _, _, _, _, rfl, S, fun h₆ tk₆ S' => done a D h₆ tk₆ ha S'⟩

/-- a callee that turned the feed -/
theorem St.fedM {fd rl : Addr} {b b' b'' : Int} {L' : Addr} {m'} {fs'} {mu''} (S : St prog w K mg mb h₀ L m mu fs h) (u : Up fd (.feed rl b) (.feed rl b') mu mu') (S' : St prog w K mg mb (hideAll h [fd]) L' m' mu'' fs' h') (hm : (fd, .feed rl b'') ∈ mu'') (hb : b'' ≤ b') :
    St prog w K mg mb h₀ L m mu' fs h' :=
  S.upd u (by obtain ⟨k, t, h1, h2, h3⟩ := S'.mo hm; exact ⟨k, t, h1, Int.le_trans h2 hb, h3⟩) fun b o hb e => S'.cx.keep b o (hideAll_get _ e (by simpa using hb))
theorem Cx.feedM {fd rl : Addr} {b k : Int} {t : Tok} (C : Cx prog w K mg mb h₀ [(fd, .sd (feedKv rl k t))] fs h) (h0 : 0 ≤ k) (h1 : k ≤ b) : Cx prog w K mg mb h₀ [(fd, .feed rl b)] fs h :=
  ⟨C.gd, C.keep, fun p hp => by rw [List.mem_singleton.mp hp]; exact ⟨⟨k, t, h0, h1, (C.mus _ (.head _)).1⟩, (C.mus _ (.head _)).2⟩, by simp, C.tds⟩
theorem hide_ld {rl fd : Addr} {ds : List PyData} (hr : (MO.ld ds).Is prog w h rl) (hne : rl ≠ fd) (hn : ∀ o vs n, h.get? fd = some o → o.cls = .type "tuple" → o.data = .seq vs n → False) : (MO.ld ds).Is prog w (hideAll h [fd]) rl := by
  obtain ⟨vs, n, e, r⟩ := hr
  refine ⟨vs, n, hideAll_get _ e (by simpa using hne), r.mono fun a o us j q hc hd => hideAll_get _ q fun q' => ?_⟩
  rw [List.mem_singleton.mp q'] at q
  exact hn _ _ _ q hc hd
/-- one of two letters -/
theorem r_ab {value slice : Expr} {x : Int} {t u : Tok} {Q : Value → Shared → Prop} (h0 : 0 ≤ x) (h1 : x < 2) (k : ∀ y t' tk', y ∈ gOps → Q (.str y t') ⟨h, g, dr, tk', os⟩)
    (hs : ∀ i, subscripted slice false (.str (Str.ofString "ab") t) (.int i u) = operate [.str (Str.ofString "ab") t, .int i u] (getItem (.str (Str.ofString "ab") t) (.int i u)) := by intro _; with_unfolding_all rfl)
    (ht : ∀ r, letTemporaryGo value (.str (Str.ofString "ab") t) r = pure () := by intro _; with_unfolding_all rfl) :
    wpAny (model prog w) A (subscriptTail value slice (.str (Str.ofString "ab") t) (.int x u)) Q E ⟨h, g, dr, tk, os⟩ := by
  obtain rfl | rfl : x = 0 ∨ x = 1 := by omega
  · exact item_str (by decide) (by decide) (by decide) (fun _ => k _ _ _ (by decide)) (hs _) ht
  · exact item_str (by decide) (by decide) (by decide) (fun _ => k _ _ _ (by decide)) (hs _) ht
end
theorem Tm.at_cons {t u : Tm} {k : Int} {r : Path} (h : t.at (k :: r) = some u) : 0 ≤ k ∧ ∃ x, t.kids[k.toNat]? = some x ∧ x.at r = some u := by
  simp only [Tm.at] at h
  split at h
  · rename_i h0
    cases hx : t.kids[k.toNat]? with
    | none => rw [hx] at h; cases h
    | some x => rw [hx] at h; exact ⟨h0, x, rfl, h⟩
  · cases h
noncomputable def kidsW (t : Tm) (k : Int) (q : Pap) : List Pap := t.kids.mapIdx fun j kid => if (j : Int) = k then q else .same kid
theorem kidsW_len {t : Tm} {k : Int} {q : Pap} : (kidsW t k q).length = t.kids.length := by simp [kidsW]
theorem kidsW_get {t : Tm} {k : Int} {q : Pap} {j : Nat} {kid : Tm} (h : t.kids[j]? = some kid) : (kidsW t k q)[j]? = some (if (j : Int) = k then q else .same kid) := by
  simp only [kidsW, List.getElem?_mapIdx, h]; rfl
theorem kidsW_at {t : Tm} {k : Int} {q : Pap} {x : Tm} (h0 : 0 ≤ k) (h : t.kids[k.toNat]? = some x) : (kidsW t k q)[k.toNat]? = some q := by
  rw [kidsW_get h, if_pos (by omega)]
theorem wi_cons {t x : Tm} {k : Int} {r : Path} {q : Pap} (hx : t.kids[k.toNat]? = some x) : wi t (k :: r) q = un t.op (kidsW t k (wi x r q)) := by
  simp only [wi, hx, stepW, kidsW]
theorem wi_under {t x : Tm} {k : Int} {r : Path} {q : Pap} (h0 : 0 ≤ k) (hx : t.kids[k.toNat]? = some x) (hn : (wi x r q).isSame = false) : wi t (k :: r) q = .under t.op (kidsW t k (wi x r q)) := by
  rw [wi_cons hx, un, if_neg]
  intro q'
  have := List.all_eq_true.mp q' _ (List.mem_of_getElem? (kidsW_at h0 hx))
  rw [hn] at this; cases this
theorem wi_notsame {q : Pap} (hq : q.isSame = false) : ∀ {p : Path} {t u : Tm}, t.at p = some u → (wi t p q).isSame = false
  | [], t, u, h => hq
  | k :: r, t, u, h => by
    obtain ⟨h0, x, hx, hr⟩ := Tm.at_cons h
    rw [wi_under h0 hx (wi_notsame hq hr)]; rfl
theorem under_d (o : Str) (ps : List Pap) : (Pap.under o ps).d = .tuple [.str "under", .str o, .tuple (ps.map Pap.d)] := by simp only [Pap.d, dP_map]
theorem same_d (t : Tm) : (Pap.same t).d = .tuple [.str "same", t.d] := by simp only [Pap.d]
section
variable {prog : Program} {w : World} {K : Frag} {mg mb : Str → Option Value} {h₀ h h' : Heap} {L : Addr} {m m' : Str → Option Value} {mu mu' mu₁ mu₂ : List (Addr × MO)} {fs fs' : List (Value × PyData)}
  {A : Around} {E : Value → Shared → Prop} {g : Array GenState} {dr : Drawn} {os : OsState} {tk : Nat} {env : Env}

/-! dict displays, the keys texts -/
theorem r_dict1 {x : Str} {kc : Nat} {vE : Expr} {kp pos : Pos} {Q : Value → Shared → Prop} (S : St prog w K mg mb h₀ L m mu fs h)
    (hv : ∀ d h₁ tk₁, (d == sysModules) = false → St prog w K mg mb h₀ L m ((d, .sd []) :: mu) fs h₁ → wpAny (model prog w) A (eval vE env) (fun v s₂ => Hold (∃ h₂ tk₂ m₂ mu₂ fs₂, s₂ = ⟨h₂, g, dr, tk₂, os⟩ ∧ St prog w K mg mb h₀ L m₂ ((d, .sd []) :: mu₂) fs₂ h₂ ∧
      ∀ h₃ tk₃, St prog w K mg mb h₀ L m₂ ((d, .sd [(x, v)]) :: mu₂) fs₂ h₃ → Q (.ref d) ⟨h₃, g, dr, tk₃, os⟩)) E ⟨h₁, g, dr, tk₁, os⟩) :
    wpAny (model prog w) A (eval (.Dict [some (.Constant (.str x) kc kp)] [vE] pos) env) Q E ⟨h, g, dr, tk, os⟩ := by
  refine wpAny_Dict_walk (knd := strKind prog w) rfl rfl (by simp) (by simp) ?_
  have hnd : (h.objs.size == sysModules) = false := by rw [beq_eq_false_iff_ne]; exact Nat.ne_of_gt (modules_low S.gdh.nl)
  have S1 := S.new (o := { cls := .type "dict", data := .dict #[] }) (mo := .sd []) (Heap.DictOf.new h)
  show wpAny _ _ (eval (.Constant (.str x) kc kp) env >>= fun kv => (holding [kv] (eval vE env >>= fun v => standAt pos >>= fun _ => pure v)) >>= fun vv => (holding [kv, vv] (pure [])) >>= fun r => pure ((kv, vv) :: r)) _ _ _
  refine wpAny_bind (r_cstr fun t t' => wpAny_bind (wpAny_holding (wpAny_bind (wpAny_mono (hv _ _ _ hnd S1) (fun v s₂ h₂ => ?_) fun _ _ e => e))))
  obtain ⟨h₂, tk₂, m₂, mu₂, fs₂, rfl, S2, hq⟩ := h₂.it
  refine wpAny_bind (wpAny_standAt (wpAny_pure (wpAny_bind (wpAny_holding (wpAny_pure (wpAny_pure ?_))))))
  refine ⟨[(x, v)], ⟨strIs, rfl, trivial⟩, S2.mo (.head _), fun h' hm hs => ?_⟩
  exact hq _ _ (S2.upd .head hm hs.extBut)
theorem r_dict2 {x y : Str} {kc kc' : Nat} {vE uE : Expr} {kp kp' pos : Pos} {Q : Value → Shared → Prop} (hxy : x ≠ y) (S : St prog w K mg mb h₀ L m mu fs h)
    (hv : ∀ d h₁ tk₁, St prog w K mg mb h₀ L m ((d, .sd []) :: mu) fs h₁ → wpAny (model prog w) A (eval vE env) (fun v s₂ => Hold (∃ h₂ tk₂ m₂ mu₂ fs₂, s₂ = ⟨h₂, g, dr, tk₂, os⟩ ∧ St prog w K mg mb h₀ L m₂ ((d, .sd []) :: mu₂) fs₂ h₂ ∧
      ∀ tk₃, wpAny (model prog w) A (eval uE env) (fun u s₃ => Hold (∃ h₃ tk₃ m₃ mu₃ fs₃, s₃ = ⟨h₃, g, dr, tk₃, os⟩ ∧ St prog w K mg mb h₀ L m₃ ((d, .sd []) :: mu₃) fs₃ h₃ ∧
      ∀ h₄ tk₄, St prog w K mg mb h₀ L m₃ ((d, .sd [(x, v), (y, u)]) :: mu₃) fs₃ h₄ → Q (.ref d) ⟨h₄, g, dr, tk₄, os⟩)) E ⟨h₂, g, dr, tk₃, os⟩)) E ⟨h₁, g, dr, tk₁, os⟩) :
    wpAny (model prog w) A (eval (.Dict [some (.Constant (.str x) kc kp), some (.Constant (.str y) kc' kp')] [vE, uE] pos) env) Q E ⟨h, g, dr, tk, os⟩ := by
  refine wpAny_Dict_walk (knd := strKind prog w) rfl rfl (by simp) (by simp) ?_
  have S1 := S.new (o := { cls := .type "dict", data := .dict #[] }) (mo := .sd []) (Heap.DictOf.new h)
  show wpAny _ _ (eval (.Constant (.str x) kc kp) env >>= fun kv => (holding [kv] (eval vE env >>= fun v => standAt pos >>= fun _ => pure v)) >>= fun vv => (holding [kv, vv] (eval (.Constant (.str y) kc' kp') env >>= fun kv => (holding [kv] (eval uE env >>= fun v => standAt pos >>= fun _ => pure v)) >>= fun vv => (holding [kv, vv] (pure [])) >>= fun r => pure ((kv, vv) :: r))) >>= fun r => pure ((kv, vv) :: r)) _ _ _
  refine wpAny_bind (r_cstr fun t t' => wpAny_bind (wpAny_holding (wpAny_bind (wpAny_mono (hv _ _ _ S1) (fun v s₂ h₂ => ?_) fun _ _ e => e))))
  obtain ⟨h₂, tk₂, m₂, mu₂, fs₂, rfl, S2, hq⟩ := h₂.it
  refine wpAny_bind (wpAny_standAt (wpAny_pure (wpAny_bind (wpAny_holding (wpAny_bind (r_cstr fun t t' => wpAny_bind (wpAny_holding (wpAny_bind (wpAny_mono (hq _) (fun u s₃ h₃ => ?_) fun _ _ e => e)))))))))
  obtain ⟨h₃, tk₃, m₃, mu₃, fs₃, rfl, S3, hq⟩ := h₃.it
  refine wpAny_bind (wpAny_standAt (wpAny_pure (wpAny_bind (wpAny_holding (wpAny_pure (wpAny_pure (wpAny_pure ?_)))))))
  refine ⟨[(x, v), (y, u)], ⟨strIs, rfl, strIs, rfl, trivial⟩, S3.mo (.head _), fun h' hm hs => ?_⟩
  refine hq _ _ (S3.upd .head (?_ : h'.DictOf _ _ _) hs.extBut)
  have : merged [] [(x, v), (y, u)] = [(x, v), (y, u)] := by simp [merged, PySem.stored, hxy]
  rw [this] at hm
  exact hm

/-! instances -/
theorem r_getA {x C : Addr} {ox : Obj} {es : List DictEntry} {n : Nat} {name : Str} {v : Value} {attr : Option Value} {expr : Bool} {Q : Value → Shared → Prop} (S : St prog w K mg mb h₀ L m mu fs h) (I : InstAt h x ox C (some (dictOf es n))) (hg : plainGet K C name = true) (hh : hasDictIn K C = true)
    (ha : findIn K (.ref C) name = some attr) (hn : noGet K attr = true) (hl : getL name es = some (some v)) (hv : handedIn v = true) (k : ∀ tk', Q v ⟨h, g, dr, tk', os⟩) : wpAny (model prog w) A (getAttr (.ref x) name expr) Q E ⟨h, g, dr, tk, os⟩ :=
  get_value (s := ⟨h, g, dr, tk, os⟩) S.gdh.inK I (plainGet_of hg).1 (findObj_own hh ha hn (by rw [lookIn_dict]; exact hl)) hv (k _)
theorem r_gmI {x C f : Addr} {ox : Obj} {es : List DictEntry} {n : Nat} {name : Str} {pl : Sem Bool} {Q : Value × List Value → Shared → Prop} (S : St prog w K mg mb h₀ L m mu fs h) (I : InstAt h x ox C (some (dictOf es n))) (hg : plainGet K C name = true)
    (hf : findIn K (.ref C) name = some (some (.ref f))) (ht : isFn K (.ref f) = true) (hl : getL name es = some none) (k : Q (.ref f, [.ref x]) ⟨h, g, dr, tk, os⟩) : wpAny (model prog w) A (getMethod (.ref x) name pl) Q E ⟨h, g, dr, tk, os⟩ :=
  method_fn (s := ⟨h, g, dr, tk, os⟩) S.gdh.inK I (plainGet_of hg).1 (plainGet_of hg).2 hf (beq_iff_eq.mp ht) (by show (lookIn name (dictOf es n)).map _ = _; rw [lookIn_dict, hl]; rfl) k
theorem r_inSD {op : CmpOp} {d : Addr} {x : Str} {t : Tok} {kvs : List (Str × Value)} {Q : Value → Shared → Prop} (hm : (MO.sd kvs).Is prog w h d) (hd : (d == sysModules) = false) (hop : op = .NotIn) (k : ∀ tk', Q (.bool !(PySem.valueAt kvs x).isSome) ⟨h, g, dr, tk', os⟩) :
    wpAny (model prog w) A (compareOp op (.str x t) (.ref d)) Q E ⟨h, g, dr, tk, os⟩ := by
  subst hop
  exact wpAny_notIn_of strIs hd (Heap.DictOf.mapOf hm) (k _)
end
theorem ite_true_iff {a b : Prop} (h : a) : if true = true then a else b := h
theorem ite_T_iff {a b : Prop} (h : a) : if True then a else b := h
theorem ite_F_iff {a b : Prop} (h : b) : if False then a else b := h
theorem ite_false_iff {a b : Prop} (h : b) : if false = true then a else b := h
section
variable {prog : Program} {w : World} {K : Frag} {mg mb : Str → Option Value} {h₀ h h' : Heap} {L : Addr} {m m' : Str → Option Value} {mu mu' mu₁ mu₂ : List (Addr × MO)} {fs fs' : List (Value × PyData)}
  {A : Around} {E : Value → Shared → Prop} {g : Array GenState} {dr : Drawn} {os : OsState} {tk : Nat} {env : Env}
/-- objects that were not there before, taken into the frame -/
theorem St.takes {new : List (Addr × MO)} (S : St prog w K mg mb h₀ L m mu fs h) (S' : St prog w K mg mb h₀ L m' mu' fs' h') (hmu : mu'.map (·.1) = mu.map (·.1)) (hn : ∀ p ∈ new, p.2.Is prog w h' p.1 ∧ h.get? p.1 = none) (nd : (new.map (·.1)).Nodup) :
    St prog w K mg mb h₀ L m' (new ++ mu') fs' h' := by
  have fresh : ∀ p ∈ new, h₀.get? p.1 = none ∧ p.1 ≠ L ∧ p.1 ∉ mu'.map (·.1) := fun p hp => by
    have e := (hn p hp).2
    refine ⟨?_, ?_, ?_⟩
    · cases q : h₀.get? p.1 with
      | none => rfl
      | some o => rw [S.cx.keep _ _ q] at e; cases e
    · intro q
      obtain ⟨oL, _, _, eL, _⟩ := S.ns
      rw [q, eL] at e; cases e
    · rw [hmu]
      intro q
      obtain ⟨p', hp', e'⟩ := List.mem_map.mp q
      obtain ⟨o', e2⟩ := (S.cx.mus p' hp').1.ex
      have e3 : p'.1 = p.1 := e'
      rw [e3, e] at e2; cases e2
  refine ⟨⟨S'.cx.gd, S'.cx.keep, fun p hp => ?_, ?_, S'.cx.tds⟩, S'.ns, S'.off, fun p hp => ?_⟩
  · rcases List.mem_append.mp hp with hp | hp
    · exact ⟨(hn p hp).1, (fresh p hp).1⟩
    · exact S'.cx.mus p hp
  · rw [List.map_append]
    refine List.nodup_append.mpr ⟨nd, S'.cx.nd, fun a ha b hb q => ?_⟩
    obtain ⟨p, hp, rfl⟩ := List.mem_map.mp ha
    subst q
    exact (fresh p hp).2.2 hb
  · rcases List.mem_append.mp hp with hp | hp
    · exact (fresh p hp).2.1
    · exact S'.ne p hp
/-- what a callee made is new to the caller -/
theorem St.newOf {fd : Addr} {L' : Addr} {m'} {mu''} {a : Addr} {mo : MO} (S' : St prog w K mg mb (hideAll h [fd]) L' m' mu'' fs' h') (hm : (a, mo) ∈ mu'') (hne : a ≠ fd) : mo.Is prog w h' a ∧ h.get? a = none := by
  refine ⟨S'.mo hm, ?_⟩
  cases q : h.get? a with
  | none => rfl
  | some o => have := (S'.cx.mus _ hm).2; rw [hideAll_get _ q (by simpa using hne)] at this; cases this
theorem nd_uniq {l : List (Addr × MO)} (nd : (l.map (·.1)).Nodup) {a : Addr} {x y : MO} (hx : (a, x) ∈ l) (hy : (a, y) ∈ l) : x = y := by
  induction l with
  | nil => cases hx
  | cons p l ih =>
    rw [List.map_cons, List.nodup_cons] at nd
    rcases List.mem_cons.mp hx with rfl | hx'
    · rcases List.mem_cons.mp hy with h | hy'
      · exact (Prod.mk.inj h).2.symm
      · exact absurd (List.mem_map.mpr ⟨(a, y), hy', rfl⟩ : a ∈ l.map (·.1)) nd.1
    · rcases List.mem_cons.mp hy with rfl | hy'
      · exact absurd (List.mem_map.mpr ⟨(a, x), hx', rfl⟩ : a ∈ l.map (·.1)) nd.1
      · exact ih nd.2 hx' hy'
theorem lp_end {fd rl td ls : Addr} {b b' b'' : Int} {L' : Addr} {m'} {mu''} {fs'} {kv : List (Str × Value)} {ds : List PyData} (S : St prog w K mg mb h₀ L m mu fs h) (up : Up fd (.feed rl b) (.feed rl b') mu mu') (S' : St prog w K mg mb (hideAll h [fd]) L' m' mu'' fs' h')
    (hf : (fd, .feed rl b'') ∈ mu'') (hb : b'' ≤ b') (ht : (td, .sd kv) ∈ mu'') (hl : (ls, .ld ds) ∈ mu'') : St prog w K mg mb h₀ L m ((td, .sd kv) :: (ls, .ld ds) :: mu') fs h' := by
  have n1 : td ≠ fd := fun q => by subst q; cases nd_uniq S'.cx.nd ht hf
  have n2 : ls ≠ fd := fun q => by subst q; cases nd_uniq S'.cx.nd hl hf
  have n3 : td ≠ ls := fun q => by subst q; cases nd_uniq S'.cx.nd ht hl
  refine S.takes (new := [(td, .sd kv), (ls, .ld ds)]) (S.fedM up S' hf hb) up.fst (fun p hp => ?_) (by simp [n3])
  rcases List.mem_cons.mp hp with rfl | hp
  · exact S'.newOf ht n1
  · rw [List.mem_singleton.mp hp]; exact S'.newOf hl n2
end
/-- the papers that `_law_paper` makes of a part -/
inductive PS (u l : Tm) : Pap → Tm → Tm → Tm → List (Path × Bool) → Prop
  | same : PS u l (.same u) u u u []
  | told : PS u l (.told "t") u l l [([], false)]
  | turn : PS u l (.turn (.told "t")) l u l [([], true)]
  | join : PS u l (.join (.told "t") (.turn (.told "t"))) u l u [([], false), ([], true)]
  | under (i : Nat) (x : Tm) : u.kids[i]? = some x → PS u l (.under u.op (kidsW u i (.told "t"))) x l (dn u [(i : Int)] l) [([(i : Int)], false)]
theorem told_d (x : Str) : (Pap.told x).d = .tuple [.str "told", .str x] := by simp only [Pap.d]
theorem turn_d (p : Pap) : (Pap.turn p).d = .tuple [.str "turn", p.d] := by simp only [Pap.d]
theorem join_d (p q : Pap) : (Pap.join p q).d = .tuple [.str "join", p.d, q.d] := by simp only [Pap.d]
noncomputable abbrev sdat (x : Path × Bool) : PyData := .tuple [pt x.1, .str "t", .bool x.2]
noncomputable def late (l : Tm) : Prop := l = .mk "c" [] ∨ l = .mk "f" [.mk "c" []]
theorem late.fit {l : Tm} (h : late l) : l.fit 2 := by
  rcases h with rfl | rfl <;> simp [Tm.fit, Tm.op, Tm.kids, gOps]
theorem late.size {l : Tm} (h : late l) : l.size ≤ 2 := by
  rcases h with rfl | rfl <;> simp [Tm.size, zT]
theorem tcf (a : Args) : (Code.builtin "type.__call__" a).frames = 0 := by
  simp [Code.frames, Code.isFrame]
theorem tcw (a : Args) : (Code.builtin "type.__call__" a).weight ≤ 2 := by
  have h1 : (Code.builtin "type.__call__" a).isCaller = false := rfl
  have h2 : (Code.builtin "type.__call__" a).isGuard = false := by show guardIds.contains "type.__call__" = false; decide +kernel
  unfold Code.weight
  rw [tcf, h1, h2]
  split <;> simp
theorem tcu (a : Args) : (Code.builtin "type.__call__" a).cUnits = 1 := by
  have := tcf a
  unfold Code.cUnits; simp [this]
theorem Rm.make {A : Around} {n : Nat} (R : Rm A (n + 2)) (a : Args) : Rm (A.under (.builtin "type.__call__" a)) n :=
  ⟨R.hh, by have := R.dp; have := tcw a; show A.depth + Code.weight _ + n < _; omega, by have := R.un; have := tcu a; show A.units + Code.cUnits _ + 10 * n + 200 < _; omega⟩
section
variable {prog : Program} {w : World} {K : Frag} {mg mb : Str → Option Value} {h₀ h h' : Heap} {L : Addr} {m m' : Str → Option Value} {mu mu' mu₁ mu₂ : List (Addr × MO)} {fs fs' : List (Value × PyData)}
  {A : Around} {E : Value → Shared → Prop} {g : Array GenState} {dr : Drawn} {os : OsState} {tk : Nat} {env : Env}
/-- a name of a new object set -/
theorem r_setA {x dx C : Addr} {es es' : List DictEntry} {n n' : Nat} {name : Str} {v : Value} {Q : Unit → Shared → Prop} (S : St prog w K mg mb h₀ L m [(x, .obj (instObj C dx)), (dx, .obj (dictOf es n))] [] h) (hL : h₀.objs.size ≤ L)
    (hs : findIn K (.ref C) "__setattr__" = some (some (.builtin "object.__setattr__"))) (hp : plainOver K C = true) (ht : takerIn K C name = some none) (hh : hasDictIn K C = true) (hl : (getL name es).isSome = true)
    (e : (putL name (PyData.keyHash w.params name) (.str name (tk + 1)) v es, putN name es n) = (es', n')) (hz : es'.length ≤ 1000)
    (k : ∀ h', St prog w K mg mb h₀ L m [(x, .obj (instObj C dx)), (dx, .obj (dictOf es' n'))] [] h' → Q () ⟨h', g, dr, tk + 2, os⟩) : wpAny (model prog w) A (setAttr (.ref x) name v) Q E ⟨h, g, dr, tk, os⟩ := by
  have F : Fr h₀ L h m := ⟨S.ns, S.cx.keep, hL⟩
  have nd := S.cx.nd
  simp only [List.map_cons, List.map_nil, List.nodup_cons, List.mem_singleton, List.not_mem_nil, not_false_eq_true, List.nodup_nil, and_true] at nd
  have N : News h₀ L h [(x, instObj C dx), (dx, dictOf es n)] := by
    intro p hp
    rcases List.mem_cons.mp hp with rfl | hp
    · exact ⟨(S.mo (.head _) : (MO.obj _).Is prog w h x).1, S.ne _ (.head _), (S.cx.mus _ (.head _)).2⟩
    · rw [List.mem_singleton.mp hp]
      exact ⟨(S.mo (.tail _ (.head _)) : (MO.obj _).Is prog w h dx).1, S.ne _ (.tail _ (.head _)), (S.cx.mus _ (.tail _ (.head _))).2⟩
  have I : InstAt h x (instObj C dx) C (some (dictOf es n)) := InstAt.of_news N (.head _) (.tail _ (.head _))
  have hd2 : (dictOf es' n').cls ≠ .type "tuple" := by show Value.type "dict" ≠ Value.type "tuple"; decide
  have hx2 : (instObj C dx).cls ≠ .type "tuple" := by show Value.ref C ≠ Value.type "tuple"; intro q; cases q
  refine set_dict (s := ⟨h, g, dr, tk, os⟩) F S.cx.gd.inK N I rfl hs hp ht hh hl e (.tail (fun q => nd q) (.head fun _ h => nomatch h)) hz fun h' F' N' => k h' ?_
  refine ⟨⟨S.cx.gd, F'.keep, fun p hp => ?_, by simp [nd], fun p hp => nomatch hp⟩, F'.ns, S.off, fun p hp => ?_⟩
  · rcases List.mem_cons.mp hp with rfl | hp
    · have := N' _ (.head _); exact ⟨⟨this.1, hx2⟩, this.2.2⟩
    · rw [List.mem_singleton.mp hp]; have := N' _ (.tail _ (.head _)); exact ⟨⟨this.1, hd2⟩, this.2.2⟩
  · rcases List.mem_cons.mp hp with rfl | hp
    · exact (N' _ (.head _)).2.1
    · rw [List.mem_singleton.mp hp]; exact (N' _ (.tail _ (.head _))).2.1
end
/-! the two sides of a paper; a b: what is told -/
mutual
noncomputable def sdF (a b : Tm) : Pap → Tm × Tm
  | .same t => (t, t)
  | .told _ => (a, b)
  | .turn p => ((sdF a b p).2, (sdF a b p).1)
  | .join p q => ((sdF a b p).1, (sdF a b q).2)
  | .under o ks => (.mk o ((sdL a b ks).map (·.1)), .mk o ((sdL a b ks).map (·.2)))
noncomputable def sdL (a b : Tm) : List Pap → List (Tm × Tm)
  | [] => []
  | p :: r => sdF a b p :: sdL a b r
end
theorem sdL_map {a b : Tm} : ∀ l, sdL a b l = l.map (sdF a b)
  | [] => by simp [sdL]
  | p :: r => by rw [sdL, sdL_map r]; rfl
theorem sdF_under {a b : Tm} (o : Str) (ks : List Pap) : sdF a b (.under o ks) = (.mk o (ks.map fun p => (sdF a b p).1), .mk o (ks.map fun p => (sdF a b p).2)) := by
  rw [sdF, sdL_map, List.map_map, List.map_map]; rfl
mutual
noncomputable def well (a b : Tm) (has : Bool) : Pap → Prop
  | .same _ => True
  | .told x => x = "t" ∧ has = true
  | .turn p => well a b has p
  | .join p q => well a b has p ∧ well a b has q ∧ (sdF a b p).2 = (sdF a b q).1 ∧ lay 60 (sdF a b p).2.d
  | .under _ ks => wellL a b has ks
noncomputable def wellL (a b : Tm) (has : Bool) : List Pap → Prop
  | [] => True
  | p :: r => well a b has p ∧ wellL a b has r
end
theorem wellL_iff {a b : Tm} {has : Bool} : ∀ l, wellL a b has l ↔ ∀ p ∈ l, well a b has p
  | [] => by simp [wellL]
  | p :: r => by simp [wellL, wellL_iff r]
theorem well_parts {a b : Tm} {has : Bool} {p : Pap} (h : well a b has p) : ∀ q ∈ p.parts, well a b has q := by
  cases p with
  | same t => intro q hq; cases hq
  | told x => intro q hq; cases hq
  | turn p => intro q hq; rw [List.mem_singleton.mp hq]; simpa [well] using h
  | join p p' =>
    simp only [well] at h
    intro q hq
    simp only [Pap.parts, List.mem_cons, List.not_mem_nil, or_false] at hq
    rcases hq with rfl | rfl
    · exact h.1
    · exact h.2.1
  | under o ks => simp only [well] at h; exact (wellL_iff _).mp h
noncomputable abbrev wpr (x : Tm × Tm) : PyData := .tuple [x.1.d, x.2.d]

/-- a Judge as the heap holds it -/
structure Jud (prog : Program) (w : World) (h : Heap) (j td : Addr) (a b : Tm) (has : Bool) : Prop where
  inst : ∃ dj t1 t2 r, W.InstAt h j (instObj 208 dj) 208 (some (dictOf [⟨PyData.keyHash w.params (Str.ofString "rules"), .str (Str.ofString "rules") t1, .ref r⟩, ⟨PyData.keyHash w.params (Str.ofString "told"), .str (Str.ofString "told") t2, .ref td⟩] 2))
  told : has = true → (td == sysModules) = false ∧ ∃ pa, (MO.sd [(Str.ofString "t", .ref pa)]).Is prog w h td ∧ TD h (.ref pa) (.tuple [a.d, b.d])
theorem InstAt_le {h h' : Heap} {x C : Addr} {ox : Obj} {od : Option Obj} (I : W.InstAt h x ox C od) (l : Le h h') : W.InstAt h' x ox C od :=
  ⟨l _ _ I.at_, I.cls, I.no, by
    have := I.dict
    revert this
    cases ox.dict <;> cases od <;> first | exact fun q => l _ _ q | exact id⟩
theorem Jud.le {prog : Program} {w : World} {h h' : Heap} {j td : Addr} {a b : Tm} {has : Bool} (J : Jud prog w h j td a b has) (l : Le h h') : Jud prog w h' j td a b has := by
  obtain ⟨⟨dj, t1, t2, r, I⟩, t⟩ := J
  refine ⟨⟨dj, t1, t2, r, InstAt_le I l⟩, fun q => ?_⟩
  obtain ⟨n, pa, h1, h2⟩ := t q
  exact ⟨n, pa, h1.le l, h2.mono l.tle⟩
theorem ite_is_true {c : Bool} {a b : Prop} (hc : c = true) (h : a) : if c = true then a else b := by rw [if_pos hc]; exact h
theorem ite_is_false {c : Bool} {a b : Prop} (hc : c = false) (h : b) : if c = true then a else b := by rw [if_neg (by rw [hc]; decide)]; exact h
section
variable {prog : Program} {w : World} {K : Frag} {mg mb : Str → Option Value} {h₀ h h' : Heap} {L : Addr} {m m' : Str → Option Value} {mu mu' mu₁ mu₂ : List (Addr × MO)} {fs fs' : List (Value × PyData)}
  {A : Around} {E : Value → Shared → Prop} {g : Array GenState} {dr : Drawn} {os : OsState} {tk : Nat} {env : Env}
theorem r_itemLT {value slice : Expr} {a : Addr} {ds es : List PyData} {i : Int} {u : Tok} {Q : Value → Shared → Prop} (S : St prog w K mg mb h₀ L m mu fs h) (x : (MO.ld ds).Is prog w h a) (h0 : 0 ≤ i) (h1 : i < 2 ^ 63) (e : ds[i.toNat]? = some (.tuple es))
    (k : ∀ b, St prog w K mg mb h₀ L m mu ((.ref b, .tuple es) :: fs) h → Q (.ref b) ⟨h, g, dr, tk, os⟩)
    (hs : subscripted slice false (.ref a) (.int i u) = operate [.ref a, .int i u] (getItem (.ref a) (.int i u)) := by with_unfolding_all rfl) :
    wpAny (model prog w) A (subscriptTail value slice (.ref a) (.int i u)) Q E ⟨h, g, dr, tk, os⟩ := by
  obtain ⟨vs, n, e0, r⟩ := x
  obtain ⟨v, hv, tv⟩ := r.get e
  obtain ⟨b, _, _, rfl, _⟩ := tv.tup_inv
  exact tail_any (T := "list") (lobj_isList e0).typeIs slot_list_getitem.lookup (wpAny_getItem_list (lobj_isList e0) h0 h1 (by simpa using hv) (k b (S.fact tv))) hs
end
/-- each part is walked ahead of its paper -/
noncomputable def Good (l : List (Path × Pap)) : Prop := ∀ i q o, l[i]? = some (q, o) → ∀ (k : Nat) part, o.parts[k]? = some part → (q ++ [(k : Int)], part) ∈ l.take i
theorem Good.nil : Good [] := fun i q o h => by simp at h
theorem Good.append {a b : List (Path × Pap)} (x : Good a) (y : Good b) : Good (a ++ b) := by
  intro i q o h k part hp
  rw [List.take_append]
  rcases Nat.lt_or_ge i a.length with hi | hi
  · rw [List.getElem?_append_left hi] at h
    exact List.mem_append_left _ (x i q o h k part hp)
  · rw [List.getElem?_append_right hi] at h
    exact List.mem_append_right _ (y _ q o h k part hp)
theorem post_last (q : Path) (p : Pap) : (q, p) ∈ post q p := by rw [post_parts]; simp
theorem postL_has {q : Path} : ∀ {ps : List Pap} {n k : Nat} {p : Pap}, ps[k]? = some p → (q ++ [((n + k : Nat) : Int)], p) ∈ postL q n ps
  | a :: ps, n, 0, p, h => by
    simp only [List.getElem?_cons_zero, Option.some.injEq] at h
    subst h
    rw [postL]; exact List.mem_append_left _ (post_last _ _)
  | a :: ps, n, k + 1, p, h => by
    rw [postL]
    refine List.mem_append_right _ ?_
    have := postL_has (q := q) (n := n + 1) (ps := ps) (k := k) (p := p) (by simpa using h)
    rw [show n + (k + 1) = n + 1 + k by omega]; exact this
theorem post_good : ∀ (z : Nat) (q : Path) (p : Pap), p.size ≤ z → Good (post q p)
  | 0, q, p, h => by have := p.size_pos; omega
  | z + 1, q, p, h => by
    rw [post_parts]
    have hz := p.size_parts
    have key : ∀ (ps : List Pap) (n : Nat), zP ps ≤ z → Good (postL q n ps) := by
      intro ps
      induction ps with
      | nil => intro n _; exact Good.nil
      | cons a ps ih =>
        intro n hn
        rw [zP] at hn
        rw [postL]
        exact (post_good z _ a (by omega)).append (ih (n + 1) (by omega))
    intro i q' o hi k part hp
    rcases Nat.lt_or_ge i (postL q 0 p.parts).length with hl | hl
    · rw [List.getElem?_append_left hl] at hi
      rw [List.take_append]
      exact List.mem_append_left _ (key p.parts 0 (by omega) i q' o hi k part hp)
    · rw [List.getElem?_append_right hl] at hi
      have h0 : i - (postL q 0 p.parts).length = 0 := by
        rcases Nat.eq_zero_or_pos (i - (postL q 0 p.parts).length) with h | h
        · exact h
        · rw [List.getElem?_eq_none (by simp; omega)] at hi; cases hi
      rw [h0] at hi
      simp only [List.getElem?_cons_zero, Option.some.injEq, Prod.mk.injEq] at hi
      obtain ⟨rfl, rfl⟩ := hi
      rw [List.take_append]
      refine List.mem_append_left _ ?_
      rw [List.take_of_length_le hl]
      have := postL_has (q := q) (n := 0) hp
      simpa using this
/-- the paths of a walk are apart -/
theorem post_pre : ∀ (z : Nat) (q : Path) (p : Pap), p.size ≤ z → ∀ x ∈ post q p, ∃ r, x.1 = q ++ r
  | 0, q, p, h => by have := p.size_pos; omega
  | z + 1, q, p, h => by
    rw [post_parts]
    have hz := p.size_parts
    have key : ∀ (ps : List Pap) (n : Nat), zP ps ≤ z → ∀ x ∈ postL q n ps, ∃ (j : Nat) (r : Path), n ≤ j ∧ x.1 = q ++ (j : Int) :: r := by
      intro ps
      induction ps with
      | nil => intro n _ x hx; simp [postL] at hx
      | cons a ps ih =>
        intro n hn x hx
        rw [zP] at hn
        rw [postL] at hx
        rcases List.mem_append.mp hx with hx | hx
        · obtain ⟨r, hr⟩ := post_pre z _ a (by omega) x hx
          exact ⟨n, r, Nat.le_refl _, by rw [hr]; simp⟩
        · obtain ⟨j, r, hj, hr⟩ := ih (n + 1) (by omega) x hx
          exact ⟨j, r, by omega, hr⟩
    intro x hx
    rcases List.mem_append.mp hx with hx | hx
    · obtain ⟨j, r, _, hr⟩ := key p.parts 0 (by omega) x hx
      exact ⟨_, hr⟩
    · rw [List.mem_singleton.mp hx]; exact ⟨[], by simp⟩
theorem postL_pre {q : Path} : ∀ {ps : List Pap} {n : Nat} {x : Path × Pap}, x ∈ postL q n ps → ∃ (j : Nat) (r : Path), n ≤ j ∧ x.1 = q ++ (j : Int) :: r
  | [], n, x, hx => by simp [postL] at hx
  | a :: ps, n, x, hx => by
    rw [postL] at hx
    rcases List.mem_append.mp hx with hx | hx
    · obtain ⟨r, hr⟩ := post_pre _ _ a (Nat.le_refl _) x hx
      exact ⟨n, r, Nat.le_refl _, by rw [hr]; simp⟩
    · obtain ⟨j, r, hj, hr⟩ := postL_pre hx
      exact ⟨j, r, by omega, hr⟩
theorem post_nd : ∀ (z : Nat) (q : Path) (p : Pap), p.size ≤ z → ((post q p).map (·.1)).Nodup
  | 0, q, p, h => by have := p.size_pos; omega
  | z + 1, q, p, h => by
    have hz := p.size_parts
    have key : ∀ (ps : List Pap) (n : Nat), zP ps ≤ z → ((postL q n ps).map (·.1)).Nodup := by
      intro ps
      induction ps with
      | nil => intro n _; simp [postL]
      | cons a ps ih =>
        intro n hn
        rw [zP] at hn
        rw [postL, List.map_append]
        refine List.nodup_append.mpr ⟨post_nd z _ a (by omega), ih (n + 1) (by omega), ?_⟩
        rintro u hu v hv rfl
        obtain ⟨x, hx, rfl⟩ := List.mem_map.mp hu
        obtain ⟨y, hy, e⟩ := List.mem_map.mp hv
        obtain ⟨r, hr⟩ := post_pre _ _ a (Nat.le_refl _) x hx
        obtain ⟨j, r', hj, hr'⟩ := postL_pre hy
        have e2 : y.1 = x.1 := e
        rw [hr, hr', List.append_assoc] at e2
        have := List.append_cancel_left e2
        simp at this
        omega
    rw [post_parts, List.map_append]
    refine List.nodup_append.mpr ⟨key p.parts 0 (by omega), by simp, ?_⟩
    rintro u hu v hv rfl
    obtain ⟨x, hx, rfl⟩ := List.mem_map.mp hu
    obtain ⟨j, r, _, hr⟩ := postL_pre hx
    simp at hv
    rw [hr] at hv
    simp at hv
theorem post_mem {P : Pap → Prop} (hP : ∀ p, P p → ∀ q ∈ p.parts, P q) : ∀ (z : Nat) (q : Path) (p : Pap), p.size ≤ z → P p → ∀ x ∈ post q p, P x.2
  | 0, q, p, h => by have := p.size_pos; omega
  | z + 1, q, p, h => by
    intro hp x hx
    have hz := p.size_parts
    have key : ∀ (ps : List Pap) (n : Nat), zP ps ≤ z → (∀ a ∈ ps, P a) → ∀ x ∈ postL q n ps, P x.2 := by
      intro ps
      induction ps with
      | nil => intro n _ _ x hx; simp [postL] at hx
      | cons a ps ih =>
        intro n hn hps x hx
        rw [zP] at hn
        rw [postL] at hx
        rcases List.mem_append.mp hx with hx | hx
        · exact post_mem hP z _ a (by omega) (hps a (.head _)) x hx
        · exact ih (n + 1) (by omega) (fun a ha => hps a (.tail _ ha)) x hx
    rw [post_parts] at hx
    rcases List.mem_append.mp hx with hx | hx
    · exact key p.parts 0 (by omega) (hP p hp) x hx
    · rw [List.mem_singleton.mp hx]; exact hp
theorem post_short : ∀ (z : Nat) (q : Path) (p : Pap), p.size ≤ z → ∀ x ∈ post q p, x.1.length + x.2.size ≤ q.length + p.size
  | 0, q, p, h => by have := p.size_pos; omega
  | z + 1, q, p, h => by
    intro x hx
    have hz := p.size_parts
    have key : ∀ (ps : List Pap) (n : Nat), zP ps ≤ z → ∀ x ∈ postL q n ps, x.1.length + x.2.size ≤ q.length + 1 + zP ps := by
      intro ps
      induction ps with
      | nil => intro n _ x hx; simp [postL] at hx
      | cons a ps ih =>
        intro n hn x hx
        rw [zP] at hn ⊢
        rw [postL] at hx
        rcases List.mem_append.mp hx with hx | hx
        · have := post_short z _ a (by omega) x hx
          simp only [List.length_append, List.length_cons, List.length_nil] at this
          omega
        · have := ih (n + 1) (by omega) x hx
          omega
    rw [post_parts] at hx
    rcases List.mem_append.mp hx with hx | hx
    · have := key p.parts 0 (by omega) x hx
      omega
    · rw [List.mem_singleton.mp hx]; exact Nat.le_refl _
/-- what lies at a path among the known -/
theorem atKey_mem {xs : List (List Int × Addr × Value)} (nd : (xs.map (·.1)).Nodup) {q : List Int} {ka : Addr} {v : Value} (h : (q, ka, v) ∈ xs) : atKey xs q = some (ka, v) := by
  induction xs with
  | nil => cases h
  | cons x xs ih =>
    rw [List.map_cons, List.nodup_cons] at nd
    rcases List.mem_cons.mp h with rfl | h'
    · simp [atKey]
    · have hne : x.1 ≠ q := fun e => nd.1 (List.mem_map.mpr ⟨_, h', e.symm⟩)
      have := ih nd.2 h'
      unfold atKey at this ⊢
      rw [List.find?_cons_of_neg (by simpa using hne)]
      exact this
theorem atKey_none {xs : List (List Int × Addr × Value)} {q : List Int} (h : q ∉ xs.map (·.1)) : atKey xs q = none := by
  unfold atKey
  rw [Option.map_eq_none_iff, List.find?_eq_none]
  intro x hx e
  exact h (List.mem_map.mpr ⟨x, hx, by simpa using e⟩)
section
variable {prog : Program} {w : World} {A : Around} {E : Value → Shared → Prop} {s : Shared} {env : Env}
noncomputable abbrev lc2 (elt t1 i1 t2 i2 : Expr) (scope : Scope) (pos : Pos) : Expr := .ListComp elt [⟨t1, i1, [], 0⟩, ⟨t2, i2, [], 0⟩] scope pos
theorem cs_two1 {elt t1 i1 t2 i2 : Expr} {scope : Scope} {pos : Pos} {it acc : Value} {R : Result → Shared → Prop} (h0 : codeAny (model prog w) A (.compLoop (lc2 elt t1 i1 t2 i2 scope pos) 1 it acc env) R s)
    (h : wpAny (model prog w) A (pyIter it) (fun it' s' => codeAny (model prog w) A (.compLoop (lc2 elt t1 i1 t2 i2 scope pos) 1 it' acc env) R s') noE s) :
    codeAny (model prog w) A (.compStart (lc2 elt t1 i1 t2 i2 scope pos) 1 it acc env) R s := by
  refine codeAny_of_tree ?_
  show wpAny _ _ ((compStart (lc2 elt t1 i1 t2 i2 scope pos) 1 it acc env).onRaise (fun x => do noteFrame x env; standAt theWindowsPlace)) _ _ s
  refine wpAny_notedAt (noE_mono ?_)
  unfold compStart
  show wpAny _ _ (ask >>= _) _ _ s
  refine wpAny_bind (wpAny_askSetting (wpAny_ite ?_))
  split
  · first
      | exact wpAny_bind (wpAny_pure (wpAny_pure (And.intro rfl h0)))
      | exact wpAny_pure (And.intro rfl h0)
  · first
      | exact wpAny_bind (wpAny_rule (wpAny_bind (wpAny_standAt (wpAny_bind (wpAny_mono h (fun it' s' h' => wpAny_pure (And.intro rfl h')) fun _ _ x => x)))))
      | (refine wpAny_bind (wpAny_rule ?_); show wpAny _ _ (standAt i2.pos >>= _) _ _ s; exact wpAny_bind (wpAny_standAt (wpAny_bind (wpAny_mono h (fun it' s' h' => wpAny_pure (And.intro rfl h')) fun _ _ x => x))))
/-- the inner loop -/
theorem r_compLoop21 {elt t1 i1 t2 i2 : Expr} {scope : Scope} {pos : Pos} {it acc : Value} {R : Result → Shared → Prop} (I : Nat → Shared → Prop)
    (turn : ∀ n s, I n s → wpAny (model prog w) A (pyNext it) (fun r s₁ => match r with
      | none => R (.ok .next) s₁
      | some v => wpAny (model prog w) A (letOwnedTupleGo t2 it v) (fun _ s₂ => wpAny (model prog w) A (assign t2 env v) (fun _ s₃ => wpAny (model prog w) A (eval elt env) (fun x s₄ =>
          wpAny (model prog w) A (call (.builtin "list.append") [acc, x]) (fun _ s₅ => ∃ m, m < n ∧ I m s₅) noE s₄) noE s₃) noE s₂) noE s₁) noE s) (n : Nat) (hI : I n s) :
    codeAny (model prog w) A (.compLoop (lc2 elt t1 i1 t2 i2 scope pos) 1 it acc env) R s := by
  refine codeAny_loop rfl I (fun n s hI => ?_) n hI
  show wpAny _ A ((compTurn (lc2 elt t1 i1 t2 i2 scope pos) 1 it acc env).onRaise (fun x => do noteFrame x env; theTreesLotGoes x)) _ _ s
  refine wpAny_noted ?_
  rw [compTurn_two1]
  refine noE_mono (wpAny_bind (wpAny_standAt (wpAny_bind (wpAny_mono (turn n s hI) (fun r s₁ h₁ => ?_) fun _ _ x => x))))
  cases r with
  | none => exact wpAny_pure h₁
  | some v =>
    refine wpAny_bind (wpAny_mono h₁ (fun _ s₂ h₂ => ?_) fun _ _ x => x)
    refine wpAny_bind (wpAny_mono h₂ (fun _ s₃ h₃ => ?_) fun _ _ x => x)
    refine wpAny_bind (wpAny_bind (wpAny_mono h₃ (fun x s₄ h₄ => ?_) fun _ _ x => x))
    exact wpAny_bind (wpAny_mono h₄ (fun _ s₅ h₅ => wpAny_pure (wpAny_pure ⟨rfl, h₅⟩)) fun _ _ x => x)
/-- the outer loop -/
theorem r_compLoop20 {elt t1 i1 t2 i2 : Expr} {scope : Scope} {pos : Pos} {it acc : Value} {R : Result → Shared → Prop} (I : Nat → Shared → Prop) (hs : ∀ x, foldedSetIterable i2 env x = pure x)
    (turn : ∀ n s, I n s → wpAny (model prog w) A (pyNext it) (fun r s₁ => match r with
      | none => R (.ok .next) s₁
      | some v => wpAny (model prog w) A (letOwnedTupleGo t1 it v) (fun _ s₂ => wpAny (model prog w) A (assign t1 env v) (fun _ s₃ => wpAny (model prog w) A (eval i2 env) (fun x s₄ =>
          wpAny (model prog w) A (pyIter x) (fun it2 s₅ => wpAny (model prog w) A (pyIter it2) (fun it' s' => it' = it2 ∧ s' = s₅) noE s₅ ∧
            codeAny (model prog w) A (.compLoop (lc2 elt t1 i1 t2 i2 scope pos) 1 it2 acc env) (fun r s₆ => (∃ f, r = .ok f) ∧ ∃ m, m < n ∧ I m s₆) s₅) noE s₄) noE s₃) noE s₂) noE s₁) noE s) (n : Nat) (hI : I n s) :
    codeAny (model prog w) A (.compLoop (lc2 elt t1 i1 t2 i2 scope pos) 0 it acc env) R s := by
  refine codeAny_loop rfl I (fun n s hI => ?_) n hI
  show wpAny _ A ((compTurn (lc2 elt t1 i1 t2 i2 scope pos) 0 it acc env).onRaise (fun x => do noteFrame x env; theTreesLotGoes x)) _ _ s
  refine wpAny_noted ?_
  rw [compTurn_two]
  refine noE_mono (wpAny_bind (wpAny_standAt (wpAny_bind (wpAny_mono (turn n s hI) (fun r s₁ h₁ => ?_) fun _ _ x => x))))
  cases r with
  | none => exact wpAny_pure h₁
  | some v =>
    refine wpAny_bind (wpAny_mono h₁ (fun _ s₂ h₂ => ?_) fun _ _ x => x)
    refine wpAny_bind (wpAny_mono h₂ (fun _ s₃ h₃ => ?_) fun _ _ x => x)
    refine wpAny_bind (wpAny_mono h₃ (fun x s₄ h₄ => ?_) fun _ _ x => x)
    refine wpAny_bind (wpAny_standAt ?_)
    rw [hs]
    refine wpAny_bind (wpAny_pure (wpAny_bind (wpAny_holding (wpAny_mono h₄ (fun it2 s₅ h₅ => ?_) fun _ _ x => x))))
    obtain ⟨hself, hloop⟩ := h₅
    refine wpAny_bind (wpAny_runOwn (codeAny_mono (cs_two1 hloop (wpAny_mono hself (fun it' s' h' => ?_) fun _ _ x => x)) fun r s' hr => ?_) (by intro x; cases x))
    · obtain ⟨rfl, rfl⟩ := h'; exact hloop
    · obtain ⟨⟨f, rfl⟩, hm⟩ := hr
      exact wpAny_pure ⟨rfl, hm⟩
end
section
variable {prog : Program} {w : World} {K : Frag} {mg mb : Str → Option Value} {h₀ h h' : Heap} {L : Addr} {m m' : Str → Option Value} {mu mu' mu₁ mu₂ : List (Addr × MO)} {fs fs' : List (Value × PyData)}
  {A : Around} {E : Value → Shared → Prop} {g : Array GenState} {dr : Drawn} {os : OsState} {tk : Nat} {env : Env}
/-- two clauses: the outer gives a list of data by a name, the inner walks it -/
theorem r_ch2 {elt t1 i1 : Expr} {y px : Str} {py pp pos : Pos} {scope : Scope} {cl : List (Str × Addr)} {I : Addr} {src : Heap → Prop} {mo : Nat → List (Addr × MO)} {N : Nat} {Rel : Nat → List (Str × Value) → List (Value × PyData) → Prop} {Q : Addr → Heap → Nat → Prop} {mm : Addr → Str → Option Value}
    (accD : Nat → List PyData) (pl : Nat → Addr) (ds : Nat → List PyData) (el : Nat → PyData → PyData) (h0 : accD 0 = []) (hacc : ∀ i, i < N → accD (i + 1) = accD i ++ (ds i).map (el i)) (hbig : ∀ i, i < N → (accD i).length + (ds i).length ≤ sizeLine)
    (hpl : ∀ i, i < N → (pl i, MO.ld (ds i)) ∈ mu)
    (S : St prog w K mg mb h₀ L m (mo 0 ++ mu) fs h) (self : Self prog w A g dr os I (mo 0)) (hh : A.handled = none)
    (H : ∀ C, Head prog w A g dr os K mg mb (compEnvC scope cl C env) t1 (.ref I) src mo N Rel)
    (hsrc : ∀ h₁ C D, Outer prog w K mg mb h₀ L m mu h₁ → ∀ i m h, i ≤ N → St prog w K mg mb h₁ C m (mo i ++ [(D, .ld (accD i))]) fs h → src h)
    (hname : ∀ i b f m, i < N → Rel i b f → mB b m px = some (.ref (pl i)))
    (turn : ∀ h₁ C, Outer prog w K mg mb h₀ L m mu h₁ → ∀ i, i < N → ∀ b f m₀ m h tk v d mu', Rel i b f → d ∈ ds i → m y = some v → (∀ z, z ≠ y → m z = mB b m₀ z) → St prog w K mg mb h₁ C m mu' ((v, d) :: (f ++ fs)) h →
      wpAny (model prog w) A (eval elt (compEnvC scope cl C env)) (fun x s₄ => Hold (∃ h₄ tk₄, s₄ = ⟨h₄, g, dr, tk₄, os⟩ ∧ St prog w K mg mb h₁ C m mu' ((x, el i d) :: (f ++ fs)) h₄)) noE ⟨h, g, dr, tk, os⟩)
    (done : ∀ D h₆ tk₆, St prog w K mg mb h₀ L (mm D) ((D, .ld (accD N)) :: mu) fs h₆ → Q D h₆ tk₆)
    (hloc : ∀ C, (compEnvC scope cl C env).locals = C := by intro _; rfl) (hkf : ∀ C, (compEnvC scope cl C env).scope.kind = .function := by intro _; rfl) (hy : ∀ C, isLoc (compEnvC scope cl C env) y := by intro _; rfl) (hpx : ∀ C, isLoc (compEnvC scope cl C env) px := by intro _; rfl) (hdb : (px == ("__debug__" : Str)) = false := by decide)
    (hs2 : ∀ C x, foldedSetIterable (.Name px pp) (compEnvC scope cl C env) x = pure x := by intro _ _; rfl) :
    ∃ h₂ tk₂ I' muI fs₂ mu₂, Value.ref I = .ref I' ∧ (⟨h, g, dr, tk, os⟩ : Shared) = ⟨h₂, g, dr, tk₂, os⟩ ∧ St prog w K mg mb h₀ L m (muI ++ mu₂) fs₂ h₂ ∧
      (∀ (h' : Heap) (t' : Nat) (Q : Value → Shared → Prop) (E : Value → Shared → Prop), (∀ p ∈ muI, p.2.Is prog w h' p.1) → Q (.ref I') ⟨h', g, dr, t', os⟩ → wpAny (model prog w) A (pyIter (.ref I')) Q E ⟨h', g, dr, t', os⟩) ∧
      (∀ h₁ C D h' tk', Outer prog w K mg mb h₀ L m mu₂ h₁ → St prog w K mg mb h₁ C (fun _ => none) ((D, .lst []) :: muI) fs₂ h' →
        codeAny (model prog w) A (.compLoop (.ListComp elt [⟨t1, i1, [], 0⟩, ⟨.Name y py, .Name px pp, [], 0⟩] scope pos) 0 (.ref I') (.ref D) (compEnvC scope cl C env)) (fun r s' => (∃ f, r = .ok f) ∧ ∃ muR fs' m' h₅ tk₅, s' = ⟨h₅, g, dr, tk₅, os⟩ ∧
          St prog w K mg mb h₁ C m' muR fs' h₅ ∧ ∀ h₆ tk₆, St prog w K mg mb h₀ L (mm D) (muR ++ mu₂) fs' h₆ → Q D h₆ tk₆) ⟨h', g, dr, tk', os⟩) := by
  refine ⟨h, tk, I, mo 0, fs, mu, rfl, rfl, S, self, fun h₁ C D h' tk' O Sc => ?_⟩
  have Sc' : St prog w K mg mb h₁ C (fun _ => none) (mo 0 ++ [(D, .ld (accD 0))]) fs h' := by
    rw [h0]
    exact St.begin (a := mo 0) (b := []) (by rw [List.append_nil]; exact Sc) (.inl rfl)
  have hf : ∀ C, isFun (compEnvC scope cl C env) := fun C => by unfold isFun; rw [hkf]; rfl
  refine r_compLoop20 (env := compEnvC scope cl C env) (fun n s => ∃ i m h tk, i ≤ N ∧ n = N - i ∧ s = ⟨h, g, dr, tk, os⟩ ∧ St prog w K mg mb h₁ C m (mo i ++ [(D, .ld (accD i))]) fs h) (hs2 C) ?_ N ⟨0, _, _, _, Nat.zero_le _, rfl, rfl, Sc'⟩
  rintro n s ⟨i, m₀, h, tk, hi, rfl, rfl, S⟩
  have S := (hloc C).symm ▸ S
  refine H C i _ m₀ _ fs h tk _ _ hi (hsrc h₁ C D O i m₀ h hi ((hloc C) ▸ S)) S (fun hN h' tk' S' => ?_) fun hlt b f h' tk' hr S' => ?_
  · subst hN
    have S' := (hloc C) ▸ S'
    exact ⟨⟨_, rfl⟩, _, _, _, _, _, rfl, S', fun h₆ tk₆ S'' => done D h₆ tk₆ S''⟩
  · have S' := (hloc C) ▸ S'
    refine r_loc S' (hname i b f m₀ hlt hr) ?_ (hloc C) (hkf C) (hpx C) hdb
    refine r_iterLd S' (O.at S' (hpl i hlt)) ?_
    intro J h₂ tk₂ _ S₂
    refine ⟨(self_list (muF := [])).iter (mu := mo (i + 1) ++ [(D, .ld (accD i))]) (by rw [List.append_nil]; exact S₂) ⟨rfl, rfl⟩, ?_⟩
    have S₂' : St prog w K mg mb h₁ C (mB b m₀) (lstMo J (pl i) 0 ++ (mo (i + 1) ++ [(D, .ld (accD i ++ ((ds i).take 0).map (el i)))])) (f ++ fs) h₂ := by
      rw [List.take_zero, List.map_nil, List.append_nil]; exact S₂
    refine r_compLoop21 (env := compEnvC scope cl C env) (fun n s => ∃ j m h tk, j ≤ (ds i).length ∧ n = (ds i).length - j ∧ s = ⟨h, g, dr, tk, os⟩ ∧ (∀ z, z ≠ y → m z = mB b m₀ z) ∧
      St prog w K mg mb h₁ C m (lstMo J (pl i) j ++ (mo (i + 1) ++ [(D, .ld (accD i ++ ((ds i).take j).map (el i)))])) (f ++ fs) h) ?_ (ds i).length ⟨0, _, _, _, Nat.zero_le _, rfl, rfl, fun _ _ => rfl, S₂'⟩
    rintro n s ⟨j, m₁, h₃, tk₃, hj, rfl, rfl, hm₁, S₃⟩
    have H2 : Head prog w A g dr os K mg mb (compEnvC scope cl C env) (.Name y py) (.ref J) (fun h => (MO.ld (ds i)).Is prog w h (pl i)) (lstMo J (pl i)) (ds i).length (tdRel y (ds i)) := head_list hh (hy C) (hf C)
    have hsrc2 := O.at S₃ (hpl i hlt)
    have S₃ := (hloc C).symm ▸ S₃
    refine H2 j _ m₁ _ (f ++ fs) h₃ tk₃ _ _ hj hsrc2 S₃ (fun hN h₄ tk₄ S₄ => ?_) fun hlt2 b2 f2 h₄ tk₄ hr2 S₄ => ?_
    · subst hN
      have S₄ := (hloc C) ▸ S₄
      rw [List.take_length, ← hacc i hlt] at S₄
      exact ⟨⟨_, rfl⟩, N - (i + 1), by omega, i + 1, _, _, _, hlt, rfl, rfl, S₄.facts fun p hp => List.mem_append_right _ hp⟩
    · have S₄ := (hloc C) ▸ S₄
      obtain ⟨v, d, hd, rfl, rfl⟩ := hr2
      refine wpAny_mono (turn h₁ C O i hlt b f m₀ (mB [(y, v)] m₁) h₄ tk₄ v d _ hr (List.mem_of_getElem? hd) (by simp [mB]) (fun z hz => by simp [mB, hz, hm₁ z hz]) S₄) (fun x s₅ h₅ => ?_) fun _ _ e => e
      obtain ⟨h₆, tk₆, rfl, S₅⟩ := h₅.it
      have up : ∀ (l r : List (Addr × MO)), Up D (.ld (accD i ++ ((ds i).take j).map (el i))) (.ld (accD i ++ ((ds i).take j).map (el i) ++ [el i d])) (l ++ [(D, .ld (accD i ++ ((ds i).take j).map (el i)))]) (l ++ [(D, .ld (accD i ++ ((ds i).take j).map (el i) ++ [el i d]))]) := by
        intro l r
        induction l with
        | nil => exact .head
        | cons p l ih => exact .tail ih
      have S₅' : St prog w K mg mb h₁ C (mB [(y, v)] m₁) ((lstMo J (pl i) (j + 1) ++ mo (i + 1)) ++ [(D, .ld (accD i ++ ((ds i).take j).map (el i)))]) ((x, el i d) :: (f ++ fs)) h₆ := by rw [List.append_assoc]; exact S₅
      refine r_appendD S₅' (up _ []) (S₅'.td (.head _)) ?_ (by have := hbig i hlt; rw [List.length_append, List.length_map, List.length_take]; omega)
      intro h₇ tk₇ S₇
      refine ⟨(ds i).length - (j + 1), by omega, j + 1, _, _, _, hlt2, rfl, rfl, (fun z hz => by simp [mB, hz, hm₁ z hz] : ∀ z, z ≠ y → mB [(y, v)] m₁ z = mB b m₀ z), ?_⟩
      have S₇ := S₇.facts (fs' := f ++ fs) fun p hp => .tail _ hp
      rw [take_next hd, List.map_append, List.map_cons, List.map_nil, ← List.append_assoc, ← List.append_assoc]
      exact S₇
theorem isL_raw {P : Addr} {vs : List Value} (x : (MO.lst vs).Is prog w h P) : h.IsList P vs.toArray := by
  obtain ⟨n, e⟩ := x
  exact lobj_isList e
theorem r_itemR {value slice : Expr} {a : Addr} {vs : List Value} {i : Int} {u : Tok} {v : Value} {Q : Value → Shared → Prop} (x : (MO.lst vs).Is prog w h a) (h0 : 0 ≤ i) (h1 : i < 2 ^ 63) (e : vs[i.toNat]? = some v)
    (k : Q v ⟨h, g, dr, tk, os⟩)
    (hs : subscripted slice false (.ref a) (.int i u) = operate [.ref a, .int i u] (getItem (.ref a) (.int i u)) := by with_unfolding_all rfl) :
    wpAny (model prog w) A (subscriptTail value slice (.ref a) (.int i u)) Q E ⟨h, g, dr, tk, os⟩ :=
  tail_any (T := "list") (isL_raw x).typeIs slot_list_getitem.lookup (wpAny_getItem_list (isL_raw x) h0 h1 (by simpa using e) k) hs
end
mutual
noncomputable def stF : Pap → List (Path × Bool)
  | .same _ => []
  | .told _ => [([], false)]
  | .turn p => (stF p).reverse.map fun x => (x.1, !x.2)
  | .join p q => stF p ++ stF q
  | .under _ ks => stL 0 ks
noncomputable def stL (i : Nat) : List Pap → List (Path × Bool)
  | [] => []
  | p :: r => ((stF p).map fun x => ((i : Int) :: x.1, x.2)) ++ stL (i + 1) r
end
noncomputable abbrev sdt (x : Path × Bool) : PyData := .tuple [pt x.1, .str "told", .str "t", .tuple [], .bool x.2]
mutual
theorem stF_len : ∀ p, (stF p).length ≤ p.size
  | .same t => by simp [stF, Pap.size]
  | .told x => by simp [stF, Pap.size]
  | .turn p => by have := stF_len p; simp [stF, Pap.size]; omega
  | .join p q => by have := stF_len p; have := stF_len q; simp [stF, Pap.size]; omega
  | .under o ks => by have := stL_len 0 ks; simp [stF, Pap.size]; omega
theorem stL_len (i : Nat) : ∀ l, (stL i l).length ≤ zP l
  | [] => by simp [stL, zP]
  | p :: r => by have := stF_len p; have := stL_len (i + 1) r; simp [stL, zP]; omega
end
theorem stL_snoc : ∀ (l : List Pap) (j : Nat) (p : Pap), stL j (l ++ [p]) = stL j l ++ (stF p).map fun x => (((j + l.length : Nat) : Int) :: x.1, x.2)
  | [], j, p => by simp [stL]
  | a :: l, j, p => by
    simp only [List.cons_append, stL, List.append_assoc, List.length_cons, stL_snoc l (j + 1) p]
    rw [show j + 1 + l.length = j + (l.length + 1) by omega]
theorem stL_next {l : List Pap} {i : Nat} {p : Pap} (h : l[i]? = some p) : stL 0 (l.take (i + 1)) = stL 0 (l.take i) ++ (stF p).map fun x => ((i : Int) :: x.1, x.2) := by
  have hi := (List.getElem?_eq_some_iff.mp h).1
  rw [take_next h, stL_snoc, Nat.zero_add, List.length_take, Nat.min_eq_left (Nat.le_of_lt hi)]
mutual
theorem stF_short : ∀ p, ∀ x ∈ stF p, x.1.length < p.size
  | .same t => by simp [stF]
  | .told x => by simp [stF, Pap.size]
  | .turn p => by
    intro x hx
    simp only [stF, List.mem_map, List.mem_reverse] at hx
    obtain ⟨y, hy, rfl⟩ := hx
    have := stF_short p y hy
    simp only [Pap.size]; omega
  | .join p q => by
    intro x hx
    simp only [stF, List.mem_append] at hx
    simp only [Pap.size]
    rcases hx with hx | hx
    · have := stF_short p x hx; omega
    · have := stF_short q x hx; omega
  | .under o ks => by
    intro x hx
    simp only [stF] at hx
    have := stL_short 0 ks x hx
    simp only [Pap.size]; omega
theorem stL_short (i : Nat) : ∀ l, ∀ x ∈ stL i l, x.1.length ≤ zP l
  | [] => by simp [stL]
  | p :: r => by
    intro x hx
    simp only [stL, List.mem_append, List.mem_map] at hx
    rw [zP]
    rcases hx with ⟨y, hy, rfl⟩ | hx
    · have := stF_short p y hy
      simp only [List.length_cons]; omega
    · have := stL_short (i + 1) r x hx; omega
end
theorem choose_list {α : Type} {P : Nat → α → Prop} : ∀ (N : Nat), (∀ n, n < N → ∃ b, P n b) → ∃ vs : List α, vs.length = N ∧ ∀ n b, vs[n]? = some b → P n b
  | 0, _ => ⟨[], rfl, fun n b h => by simp at h⟩
  | N + 1, h => by
    obtain ⟨vs, hl, hv⟩ := choose_list N fun n hn => h n (by omega)
    obtain ⟨b, hb⟩ := h N (by omega)
    refine ⟨vs ++ [b], by simp [hl], fun n c hc => ?_⟩
    rcases Nat.lt_or_ge n vs.length with hn | hn
    · rw [List.getElem?_append_left hn] at hc; exact hv n c hc
    · rw [List.getElem?_append_right hn] at hc
      have : n - vs.length = 0 := by
        rcases Nat.eq_zero_or_pos (n - vs.length) with h | h
        · exact h
        · rw [List.getElem?_eq_none (by simp; omega)] at hc; cases hc
      rw [this] at hc
      simp only [List.getElem?_cons_zero, Option.some.injEq] at hc
      subst hc
      rw [show n = N by omega]; exact hb
theorem ndA {a x1 x2 x3 x4 x5 : Addr} {R : List Addr} (h : (a :: x1 :: x2 :: x3 :: x4 :: x5 :: R).Nodup) : (x1 :: x2 :: x3 :: x4 :: x5 :: a :: R).Nodup :=
  (List.perm_middle (l₁ := [x1, x2, x3, x4, x5]) (l₂ := R) (a := a)).nodup_iff.mpr h
theorem ndB {a b : Addr} {R : List Addr} (h : (a :: b :: R).Nodup) : (a :: R).Nodup := by
  rw [List.nodup_cons, List.nodup_cons] at h
  exact List.nodup_cons.mpr ⟨fun q => h.1 (.tail _ q), h.2.2⟩
theorem kidsW_map {β : Type} (f : Pap → β) (g : Tm → β) (hg : ∀ kid, f (.same kid) = g kid) {t x : Tm} {k : Int} {q : Pap} (h0 : 0 ≤ k) (hx : t.kids[k.toNat]? = some x) : (kidsW t k q).map f = (t.kids.map g).set k.toNat (f q) := by
  have hk := (List.getElem?_eq_some_iff.mp hx).1
  refine List.ext_getElem? fun j => ?_
  rw [List.getElem?_map, kidsW, List.getElem?_mapIdx, List.getElem?_set, List.getElem?_map]
  by_cases hj : k.toNat = j
  · subst hj
    rw [hx]
    have : ((k.toNat : Nat) : Int) = k := by omega
    simp [this, hk]
  · have : ¬ ((j : Nat) : Int) = k := by omega
    simp only [hj, if_false]
    cases t.kids[j]? with
    | none => rfl
    | some y => simp [this, hg]
theorem sdF_un {a b : Tm} (o : Str) (ps : List Pap) : sdF a b (un o ps) = (.mk o (ps.map fun p => (sdF a b p).1), .mk o (ps.map fun p => (sdF a b p).2)) := by
  unfold un
  split
  · rename_i hall
    have hall := List.all_eq_true.mp hall
    rw [sdF]
    have h1 : ∀ p ∈ ps, sdF a b p = (p.tm, p.tm) := fun p hp => by
      have := hall p hp
      cases p <;> simp_all [Pap.isSame, sdF, Pap.tm]
    rw [List.map_congr_left (fun p hp => by rw [h1 p hp] : ∀ p ∈ ps, (sdF a b p).1 = p.tm), List.map_congr_left (fun p hp => by rw [h1 p hp] : ∀ p ∈ ps, (sdF a b p).2 = p.tm)]
  · exact sdF_under o ps
theorem Tm.eta (t : Tm) : Tm.mk t.op t.kids = t := by cases t; rfl
theorem sdF_wi {a b : Tm} {q : Pap} {u u' : Tm} (hq : sdF a b q = (u, u')) : ∀ {p : Path} {t : Tm}, t.at p = some u → sdF a b (wi t p q) = (t, dn t p u')
  | [], t, h => by
    simp only [Tm.at, Option.some.injEq] at h
    subst h
    simp only [wi, dn]; exact hq
  | k :: r, t, h => by
    obtain ⟨h0, x, hx, hr⟩ := Tm.at_cons h
    have ih := sdF_wi hq hr
    have hk := (List.getElem?_eq_some_iff.mp hx).1
    rw [wi_cons hx, sdF_un, kidsW_map (fun p => (sdF a b p).1) id (fun kid => by simp [sdF]) h0 hx, kidsW_map (fun p => (sdF a b p).2) id (fun kid => by simp [sdF]) h0 hx]
    simp only [ih, List.map_id, dn, hx]
    rw [show t.kids.set k.toNat x = t.kids by
      have : t.kids[k.toNat] = x := by rw [List.getElem?_eq_getElem hk] at hx; exact Option.some.inj hx
      rw [← this]; exact List.set_getElem_self hk, Tm.eta]
theorem wi_same_eq {q : Pap} {u : Tm} (a : Tm) (hq : (sdF a a q).1 = u) {p : Path} {t : Tm} (h : t.at p = some u) (hs : (wi t p q).isSame = true) : wi t p q = .same t := by
  have e := sdF_wi (a := a) (b := a) (q := q) (u := u) (u' := (sdF a a q).2) (by rw [← hq]) h
  cases hw : wi t p q with
  | same t' => rw [hw, sdF] at e; rw [(Prod.mk.inj e).1]
  | told _ => rw [hw] at hs; cases hs
  | turn _ => rw [hw] at hs; cases hs
  | join _ _ => rw [hw] at hs; cases hs
  | under _ _ => rw [hw] at hs; cases hs
theorem wi_of_same {u : Tm} : ∀ {p : Path} {t : Tm}, t.at p = some u → wi t p (.same u) = .same t
  | [], t, h => by
    simp only [Tm.at, Option.some.injEq] at h
    subst h; simp only [wi]
  | k :: r, t, h => by
    obtain ⟨h0, x, hx, hr⟩ := Tm.at_cons h
    refine wi_same_eq (q := .same u) (u := u) (.mk "" []) (by simp [sdF]) h ?_
    rw [wi_cons hx, wi_of_same hr, un, if_pos]
    · rfl
    · refine List.all_eq_true.mpr fun p hp => ?_
      simp only [kidsW, List.mem_mapIdx] at hp
      obtain ⟨j, hj, rfl⟩ := hp
      split <;> rfl
theorem kidsW_mem {t : Tm} {k : Int} {q p : Pap} (h : p ∈ kidsW t k q) : p = q ∨ ∃ kid ∈ t.kids, p = .same kid := by
  simp only [kidsW, List.mem_mapIdx] at h
  obtain ⟨j, hj, rfl⟩ := h
  split
  · exact .inl rfl
  · exact .inr ⟨_, List.getElem_mem hj, rfl⟩
theorem well_wi {a b : Tm} {has : Bool} {q : Pap} (hq : well a b has q) : ∀ {p : Path} {t u : Tm}, t.at p = some u → well a b has (wi t p q)
  | [], t, u, h => by simp only [wi]; exact hq
  | k :: r, t, u, h => by
    obtain ⟨h0, x, hx, hr⟩ := Tm.at_cons h
    rw [wi_cons hx, un]
    split
    · simp [well]
    · simp only [well]
      refine (wellL_iff _).mpr fun p hp => ?_
      rcases kidsW_mem hp with rfl | ⟨kid, _, rfl⟩
      · exact well_wi hq hr
      · simp [well]
theorem zP_kidsW {k : Int} {q : Pap} : ∀ (l : List Tm) (i : Nat), zP (l.mapIdx fun j kid => if ((j + i : Nat) : Int) = k then q else .same kid) ≤ zT l + q.size
  | [], i => by simp [zP]
  | t :: l, i => by
    have ih := zP_kidsW (k := k) (q := q) l (i + 1)
    have ht := t.size_pos
    rw [List.mapIdx_cons]
    simp only [zP, zT, Nat.zero_add]
    have e : (fun (j : Nat) (kid : Tm) => if ((j + 1 + i : Nat) : Int) = k then q else Pap.same kid) = fun j kid => if ((j + (i + 1) : Nat) : Int) = k then q else .same kid := by funext j kid; rw [show j + 1 + i = j + (i + 1) by omega]
    rw [e]
    split
    · rename_i hk
      have : ∀ (l : List Tm) (i : Nat), k < i → zP (l.mapIdx fun j kid => if ((j + i : Nat) : Int) = k then q else .same kid) ≤ zT l := by
        intro l
        induction l with
        | nil => intro i _; simp [zP]
        | cons a l ih =>
          intro i hi
          have ha := a.size_pos
          rw [List.mapIdx_cons]
          simp only [zP, zT, Nat.zero_add]
          rw [if_neg (by omega)]
          have e : (fun (j : Nat) (kid : Tm) => if ((j + 1 + i : Nat) : Int) = k then q else Pap.same kid) = fun j kid => if ((j + (i + 1) : Nat) : Int) = k then q else .same kid := by funext j kid; rw [show j + 1 + i = j + (i + 1) by omega]
          rw [e]
          have := ih (i + 1) (by omega)
          simp only [Pap.size]
          omega
      have := this l (i + 1) (by omega)
      omega
    · simp only [Pap.size]; omega
theorem size_wi {q : Pap} : ∀ {p : Path} {t u : Tm}, t.at p = some u → (wi t p q).size ≤ p.length * t.size + q.size
  | [], t, u, h => by simp only [wi]; exact Nat.le_add_left _ _
  | k :: r, t, u, h => by
    obtain ⟨h0, x, hx, hr⟩ := Tm.at_cons h
    have hxt : x.size ≤ t.size := Tm.at_size (p := [k]) (by simp [Tm.at, h0, hx])
    have ih := size_wi (q := q) hr
    have h1 : t.size = zT t.kids + 1 := by have := t.size_kids; omega
    have h2 := Nat.mul_le_mul_left r.length hxt
    have h4 := zP_kidsW (k := k) (q := wi x r q) t.kids 0
    have h3 : (k :: r).length * t.size = r.length * t.size + t.size := Nat.succ_mul _ _
    have h5 : zP (kidsW t k (wi x r q)) ≤ zT t.kids + (wi x r q).size := by simpa [kidsW] using h4
    rw [wi_cons hx, un]
    split
    · simp only [Pap.size]; omega
    · simp only [Pap.size]; omega
/-! the steps -/
theorem stL_same : ∀ (l : List Pap) (i : Nat), (∀ p ∈ l, p.isSame = true) → stL i l = []
  | [], i, h => by simp [stL]
  | p :: l, i, h => by
    have hp := h p (.head _)
    rw [stL, stL_same l (i + 1) fun x hx => h x (.tail _ hx)]
    cases p <;> simp_all [Pap.isSame, stF]
theorem stF_un (o : Str) (ps : List Pap) : stF (un o ps) = stL 0 ps := by
  unfold un
  split
  · rename_i hall
    rw [stL_same ps 0 (List.all_eq_true.mp hall), stF]
  · rw [stF]
theorem stL_kidsW {k : Int} {q : Pap} {x : Tm} : ∀ (l : List Tm) (i : Nat), (i : Int) ≤ k → l[k.toNat - i]? = some x → stL i (l.mapIdx fun j kid => if ((j + i : Nat) : Int) = k then q else .same kid) = (stF q).map fun y => (k :: y.1, y.2)
  | [], i, _, h => by simp at h
  | a :: l, i, hi, h => by
    have e : (fun (j : Nat) (kid : Tm) => if ((j + 1 + i : Nat) : Int) = k then q else Pap.same kid) = fun j kid => if ((j + (i + 1) : Nat) : Int) = k then q else .same kid := by funext j kid; rw [show j + 1 + i = j + (i + 1) by omega]
    rw [List.mapIdx_cons, stL]
    simp only [Nat.zero_add]
    rw [e]
    by_cases hk : (i : Int) = k
    · rw [if_pos hk, hk]
      have : stL (i + 1) (l.mapIdx fun j kid => if ((j + (i + 1) : Nat) : Int) = k then q else .same kid) = [] := by
        refine stL_same _ _ fun p hp => ?_
        obtain ⟨j, hj, rfl⟩ := List.mem_mapIdx.mp hp
        rw [if_neg (by omega)]; rfl
      rw [this, List.append_nil]
    · rw [if_neg hk, stF, List.map_nil, List.nil_append]
      have h2 : k.toNat - i = (k.toNat - (i + 1)) + 1 := by omega
      rw [h2] at h
      exact stL_kidsW l (i + 1) (by omega) (by simpa using h)
theorem stF_wi {q : Pap} : ∀ {p : Path} {t u : Tm}, t.at p = some u → stF (wi t p q) = (stF q).map fun y => (p ++ y.1, y.2)
  | [], t, u, h => by simp [wi]
  | k :: r, t, u, h => by
    obtain ⟨h0, x, hx, hr⟩ := Tm.at_cons h
    rw [wi_cons hx, stF_un]
    have := stL_kidsW (k := k) (q := wi x r q) t.kids 0 (by omega) (by simpa using hx)
    simp only [Nat.add_zero] at this
    rw [kidsW, this, stF_wi hr, List.map_map]
    exact List.map_congr_left fun y _ => rfl
/-! cut in two -/
theorem wi_cut {q : Pap} {u : Tm} : ∀ (c : Nat) {p : Path} {t : Tm}, t.at p = some u → ∃ x, t.at (p.take c) = some x ∧ x.at (p.drop c) = some u ∧ wi t (p.take c) (wi x (p.drop c) q) = wi t p q
  | 0, p, t, h => ⟨t, by simp [Tm.at], by simpa using h, by simp [wi]⟩
  | c + 1, [], t, h => ⟨t, by simp [Tm.at], by simpa using h, by simp [wi]⟩
  | c + 1, k :: r, t, h => by
    obtain ⟨h0, x, hx, hr⟩ := Tm.at_cons h
    obtain ⟨y, h1, h2, h3⟩ := wi_cut (q := q) c hr
    refine ⟨y, ?_, h2, ?_⟩
    · simp only [List.take_succ_cons, Tm.at, h0, if_true, hx]; exact h1
    · simp only [List.take_succ_cons, List.drop_succ_cons]
      rw [wi_cons hx, wi_cons hx, h3]
theorem under_wi {u x : Tm} {i : Nat} (hx : u.kids[i]? = some x) : u.at [(i : Int)] = some x ∧ Pap.under u.op (kidsW u i (.told "t")) = wi u [(i : Int)] (.told "t") := by
  have h1 : u.kids[((i : Nat) : Int).toNat]? = some x := by simpa using hx
  refine ⟨by simp [Tm.at, hx], ?_⟩
  rw [wi_under (by omega) h1 (by simp [wi, Pap.isSame])]
  simp only [wi]
section
variable {u l : Tm} {q : Pap} {tl tr u' : Tm} {ss : List (Path × Bool)}
theorem PS.sd (P : PS u l q tl tr u' ss) : sdF tl tr q = (u, u') := by
  cases P with
  | same => simp [sdF]
  | told => simp [sdF]
  | turn => simp [sdF]
  | join => simp [sdF]
  | under i x hx =>
    obtain ⟨h1, h2⟩ := under_wi hx
    rw [h2]
    exact sdF_wi (by simp [sdF]) h1
theorem PS.st (P : PS u l q tl tr u' ss) : stF q = ss := by
  cases P with
  | same => simp [stF]
  | told => simp [stF]
  | turn => simp [stF]
  | join => simp [stF]
  | under i x hx =>
    obtain ⟨h1, h2⟩ := under_wi hx
    rw [h2, stF_wi h1]
    simp [stF]
theorem PS.well {has : Bool} (P : PS u l q tl tr u' ss) (hl : late l) (hu : ∃ n, n ≤ 50 ∧ u.fit n) (hh : q = .same u ∨ has = true) : well tl tr has q := by
  cases P with
  | same => simp [Mine.well]
  | told => rcases hh with h | h <;> simp_all [Mine.well]
  | turn => rcases hh with h | h <;> simp_all [Mine.well]
  | join =>
    rcases hh with h | h
    · cases h
    · simp only [Mine.well, sdF]
      exact ⟨⟨trivial, h⟩, ⟨trivial, h⟩, trivial, hl.fit.lay.le (by omega)⟩
  | under i x hx =>
    obtain ⟨h1, h2⟩ := under_wi hx
    rcases hh with h | h
    · cases h
    · rw [h2]
      exact well_wi (by simp [Mine.well, h]) h1
theorem PS.ok {n : Nat} (P : PS u l q tl tr u' ss) (hu : u.fit n) (hz : u.size < 1000) : q.ok := by
  cases P with
  | same => simp only [Pap.ok]; exact ⟨hu.ok, hz⟩
  | told => simp [Pap.ok]
  | turn => simp [Pap.ok]
  | join => simp [Pap.ok]
  | under i x hx =>
    cases n with
    | zero => exact hu.elim
    | succ n =>
      simp only [Pap.ok]
      refine ⟨hu.1, (okP_iff _).mpr fun p hp => ?_⟩
      rcases kidsW_mem hp with rfl | ⟨kid, hkid, rfl⟩
      · simp [Pap.ok]
      · simp only [Pap.ok]
        have := mem_zT hkid
        have := u.size_kids
        exact ⟨(hu.2 kid hkid).ok, by omega⟩
theorem PS.size (P : PS u l q tl tr u' ss) : q.size ≤ u.size + 4 := by
  cases P with
  | same => simp only [Pap.size]; omega
  | told => simp only [Pap.size]; omega
  | turn => simp only [Pap.size]; omega
  | join => simp only [Pap.size]; omega
  | under i x hx =>
    obtain ⟨h1, h2⟩ := under_wi hx
    rw [h2]
    have := size_wi (q := .told "t") h1
    simp only [List.length_cons, List.length_nil, Nat.zero_add, Nat.one_mul] at this
    simp only [Pap.size] at this
    omega
theorem lay_told {n : Nat} : lay (n + 1) (Pap.told "t").d := by
  rw [told_d]
  refine lay_tup fun d hd => ?_
  simp only [List.mem_cons, List.not_mem_nil, or_false] at hd
  rcases hd with rfl | rfl
  · exact lay_kind _ (by simp)
  · exact lay_str _ (by simp only [PyData.canLay0]; decide +kernel)
theorem PS.lay {n : Nat} (P : PS u l q tl tr u' ss) (hu : u.fit n) : Mine.lay (n + 3) q.d := by
  cases P with
  | same =>
    rw [same_d]
    refine lay_tup (n := n + 2) fun d hd => ?_
    simp only [List.mem_cons, List.not_mem_nil, or_false] at hd
    rcases hd with rfl | rfl
    · exact lay_kind _ (by simp)
    · exact hu.lay.le (by omega)
  | told => exact lay_told
  | turn =>
    rw [turn_d]
    refine lay_tup (n := n + 2) fun d hd => ?_
    simp only [List.mem_cons, List.not_mem_nil, or_false] at hd
    rcases hd with rfl | rfl
    · exact lay_kind _ (by simp)
    · exact lay_told
  | join =>
    rw [join_d]
    refine lay_tup (n := n + 2) fun d hd => ?_
    simp only [List.mem_cons, List.not_mem_nil, or_false] at hd
    rcases hd with rfl | rfl | rfl
    · exact lay_kind _ (by simp)
    · exact lay_told
    · rw [turn_d]
      refine lay_tup (n := n + 1) fun d hd => ?_
      simp only [List.mem_cons, List.not_mem_nil, or_false] at hd
      rcases hd with rfl | rfl
      · exact lay_kind _ (by simp)
      · exact lay_told
  | under i x hx =>
    cases n with
    | zero => exact hu.elim
    | succ n =>
      rw [under_d]
      refine lay_tup (n := n + 3) fun d hd => ?_
      simp only [List.mem_cons, List.not_mem_nil, or_false] at hd
      rcases hd with rfl | rfl | rfl
      · exact lay_kind _ (by simp)
      · exact lay_gOp hu.1 _
      · refine lay_tup (n := n + 2) fun d hd => ?_
        obtain ⟨p, hp, rfl⟩ := List.mem_map.mp hd
        rcases kidsW_mem hp with rfl | ⟨kid, hkid, rfl⟩
        · exact lay_told
        · rw [same_d]
          refine lay_tup (n := n + 1) fun d hd => ?_
          simp only [List.mem_cons, List.not_mem_nil, or_false] at hd
          rcases hd with rfl | rfl
          · exact lay_kind _ (by simp)
          · exact (hu.2 kid hkid).lay.le (by omega)
theorem PS.kind (P : PS u l q tl tr u' ss) : q = .same u ∨ q.isSame = false := by
  cases P <;> first | exact .inl rfl | exact .inr rfl
end
/-- the whole paper about a place -/
theorem ok_wi2 {q : Pap} (hq : q.ok) (hn : q.isSame = false) {n : Nat} : ∀ {n : Nat} {p : Path} {t u : Tm}, t.at p = some u → t.fit n → t.size < 1000 → (wi t p q).ok
  | n, [], t, u, h, hf, hz => by simp only [wi]; exact hq
  | n, k :: r, t, u, h, hf, hz => by
    obtain ⟨h0, x, hx, hr⟩ := Tm.at_cons h
    have hxz := mem_zT (List.mem_of_getElem? hx)
    have hts := t.size_kids
    cases n with
    | zero => exact hf.elim
    | succ n =>
      rw [wi_under h0 hx (wi_notsame hn hr)]
      simp only [Pap.ok]
      refine ⟨hf.1, (okP_iff _).mpr fun p hp => ?_⟩
      rcases kidsW_mem hp with rfl | ⟨kid, hkid, rfl⟩
      · exact ok_wi2 hq hn (n := n) hr (hf.2 x (List.mem_of_getElem? hx)) (by omega)
      · simp only [Pap.ok]
        have := mem_zT hkid
        exact ⟨(hf.2 kid hkid).ok, by omega⟩
theorem PS.ok_wi {u l : Tm} {q : Pap} {tl tr u' : Tm} {ss : List (Path × Bool)} {n k : Nat} {t : Tm} {p : Path} (P : PS u l q tl tr u' ss) (hu : u.fit k) (hz : u.size < 1000) (ht : t.fit n) (htz : t.size < 1000) (h : t.at p = some u) : (wi t p q).ok := by
  rcases P.kind with rfl | hn
  · rw [wi_of_same h]; simp only [Pap.ok]; exact ⟨ht.ok, htz⟩
  · exact ok_wi2 (n := n) (P.ok hu hz) hn h ht htz
theorem fit_dn {l : Tm} {k : Nat} (hl : l.fit k) : ∀ {p : Path} {t u : Tm} {n : Nat}, t.at p = some u → t.fit n → (dn t p l).fit (n + k)
  | [], t, u, n, h, hf => by simp only [dn]; exact hl.le (by omega)
  | kk :: r, t, u, n, h, hf => by
    obtain ⟨h0, x, hx, hr⟩ := Tm.at_cons h
    cases n with
    | zero => exact hf.elim
    | succ n =>
      simp only [dn, hx]
      rw [show n + 1 + k = (n + k) + 1 by omega]
      refine ⟨hf.1, fun y hy => ?_⟩
      rcases List.mem_or_eq_of_mem_set hy with hy | rfl
      · exact (hf.2 y hy).le (by omega)
      · exact fit_dn hl hr (hf.2 x (List.mem_of_getElem? hx))
theorem PS.late_fit {u l : Tm} {q : Pap} {tl tr u' : Tm} {ss : List (Path × Bool)} {n : Nat} (P : PS u l q tl tr u' ss) (hl : late l) (hu : u.fit n) : u'.fit (n + 2) := by
  cases P with
  | same => exact hu.le (by omega)
  | told => exact hl.fit.le (by omega)
  | turn => exact hl.fit.le (by omega)
  | join => exact hu.le (by omega)
  | under i x hx => exact fit_dn hl.fit (under_wi hx).1 hu
theorem slicePick_take (items : Array Value) (b : Nat) : slicePick items none (some (b : Int)) none = (items.toList.take b).toArray := by
  by_cases hb : b ≤ items.size
  · exact slicePick_upto items b hb
  · have e : sliceBounds none (some (b : Int)) none items.size = (((0 : Nat) : Int), ((items.size : Nat) : Int), 1) := by
      simp only [sliceBounds, Option.getD_none]
      have h2 : ¬ ((b : Int) < 0) := by omega
      simp only [h2, if_false, show (1 : Int) > 0 by decide, if_true]
      congr 1
      congr 1; omega
    unfold slicePick
    rw [e]
    simp only [sliceRange_one, pick_run]
    simp only [List.drop_zero, Nat.sub_zero]
    rw [List.take_of_length_le (by simp), List.take_of_length_le (by simp; omega)]
section
variable {prog : Program} {w : World} {K : Frag} {mg mb : Str → Option Value} {h₀ h h' : Heap} {L : Addr} {m m' : Str → Option Value} {mu mu' mu₁ mu₂ : List (Addr × MO)} {fs fs' : List (Value × PyData)}
  {A : Around} {E : Value → Shared → Prop} {g : Array GenState} {dr : Drawn} {os : OsState} {tk : Nat} {env : Env}
theorem tds_ints {h : Heap} : ∀ {vs : List Value} {ns : List Int}, IntsAre vs ns → TDs h vs (ns.map .int)
  | _, _, .nil => .nil
  | _, _, .cons n t r => .cons (TD.int _ _) (tds_ints r)
/-- the first of a list of ints -/
theorem r_slL {value slice : Expr} {l : Addr} {vs : List Value} {ns : List Int} {b : Nat} {u : Tok} {Q : Value → Shared → Prop} (S : St prog w K mg mb h₀ L m mu fs h) (hl : h.IsList l vs.toArray) (hi : IntsAre vs ns)
    (k : ∀ a h' tk', Le h h' → St prog w K mg mb h₀ L m ((a, .ld ((ns.take b).map .int)) :: mu) fs h' → Q (.ref a) ⟨h', g, dr, tk', os⟩) (hsz : vs.length ≤ sizeLine)
    (hs : subscripted slice false (.ref l) (.ref h.objs.size) = operate [.ref h.objs.size, .ref l] (getItem (.ref l) (.ref h.objs.size)) := by with_unfolding_all rfl)
    (hg : ∀ r, letTemporaryGo value (.ref l) r = pure () := by intro _; with_unfolding_all rfl) :
    wpAny (model prog w) A (subscriptTail value slice (.ref l) (.ref h.objs.size)) Q E ⟨h.push { cls := .type "slice", data := .fields #[.none, .int (b : Int) u, .none] }, g, dr, tk, os⟩ := by
  have l1 := Le.push h { cls := .type "slice", data := .fields #[.none, .int (b : Int) u, .none] }
  have hl' : (h.push { cls := .type "slice", data := .fields #[.none, .int (b : Int) u, .none] }).IsList l vs.toArray := by obtain ⟨o, e, r⟩ := hl; exact ⟨o, l1 _ _ e, r⟩
  refine subscriptTail_ops (s := ⟨h.push { cls := .type "slice", data := .fields #[.none, .int (b : Int) u, .none] }, g, dr, tk, os⟩) hl'.typeIs list_getitem_lookup
    (wpAny_getItem_list_slice hl' (Heap.IsSliceOf.new ..) .none (.int _ _) .none (by simp) ?_ (by simpa using hsz)) hs hg
  rw [slicePick_take]
  have S1 := S.ext l1
  refine k _ _ _ (l1.trans (Le.push _ _)) (S1.new ⟨vs.take b, 0, Heap.get?_push_size _ rfl, ?_⟩)
  rw [show (ns.take b).map PyData.int = (ns.map .int).take b by rw [List.map_take]]
  exact (tds_ints hi).take b
end
section
variable {prog : Program} {w : World} {A : Around} {E : Value → Shared → Prop} {h : Heap} {g : Array GenState} {d : Drawn} {os : OsState} {t : Nat} {a : Addr} {vs : List Value} {n : Nat}
theorem lk_list_keys_none : typeLookup (.type "list") "keys" = pure none := by rw [typeLookup_type, builtinLookup_eq_fast]; kernel_rfl
/-- a list has no keys -/
theorem list_no_keys {Q : Option Value → Shared → Prop} (hx : h.get? a = some (lobj vs n)) (hA : A.handled = none) (hq : ∀ h' tk', Le h h' → Q none ⟨h', g, d, tk', os⟩) : wpAny (model prog w) A (getAttr? (.ref a) "keys") Q E ⟨h, g, d, t, os⟩ := by
  have hT : ∀ tk', (⟨h, g, d, tk', os⟩ : Shared).TypeIs (.ref a) "list" := fun _ => ⟨_, hx, rfl⟩
  have f1 := sub_AttributeError
  have f3 := F.slot_list_getattribute.lookup
  have f4 := F.slot_list_getattribute.bind (.ref a)
  have f5 := am_list_getattr_none
  unfold getAttr? getAttrBy? getAttrBy
  repeat (any_goals (first | assumption | exact hT _ | ((with_reducible show wpAny _ _ (call (Value.builtin "list.__getattribute__") _ _) _ _ _); refine call_meets F.slot_list_getattribute (hT _) am_entry_list_getattribute (F.args_list_getattribute_2 _ _) (meets_getattribute_miss_list a vs.toArray n #[] "keys" _ lk_list_keys_none (by decide +kernel) (by decide +kernel)) ⟨hx, hA, fun h' tk' e hx' => ?_⟩) | wp_step))
  obtain ⟨t', u', he⟩ := hx'.there
  show wpAny _ _ (getattributeRaised _ _ _ _ _ _ _) _ _ _
  unfold getattributeRaised
  repeat (any_goals (first | assumption | wp_step))
  all_goals first | exact hq _ _ hx'.of.keeps | trace_state
end
theorem atKey_none' {xs : List (List Int × Addr × Value)} {q : List Int} (h : q ∉ xs.map (·.1)) : atKey xs q = none := by
  unfold atKey
  rw [Option.map_eq_none_iff, List.find?_eq_none]
  intro x hx e
  exact h (List.mem_map.mpr ⟨x, hx, by simpa using e⟩)
theorem entry_dloop : entryFor table "dict.update.loop" = some Builtin.«dict.update.loop» := entryFor_of_tree (by kernel_rfl)
section
variable {prog : Program} {w : World} {K : Frag} {mg mb : Str → Option Value} {h₀ h h' : Heap} {L : Addr} {m m' : Str → Option Value} {mu mu' mu₁ mu₂ : List (Addr × MO)} {fs fs' : List (Value × PyData)}
  {A : Around} {E : Value → Shared → Prop} {g : Array GenState} {dr : Drawn} {os : OsState} {tk : Nat} {env : Env}
theorem dl_loop {d I l : Addr} {R : Result → Shared → Prop} (prs : List (List Int × PyData)) (hl : ∀ h' L' m' mu' fs', St prog w K mg mb h₀ L' m' mu' fs' h' → True) (hu : A.units + 5 < cLine) (hh : A.handled = none) (hnd : (prs.map (·.1)).Nodup) (hps : prs.length < 1000)
    (done : ∀ xs h' tk', St prog w K mg mb h₀ L m ((d, .kd xs) :: mu) fs h' → xs.map (·.1) = prs.map (·.1) → (∀ (n : Nat) (p : List Int) (ka : Addr) (v : Value), xs[n]? = some (p, ka, v) → ∃ x, prs[n]? = some (p, x) ∧ TD h' v x) → R (.ok (.ret .none)) ⟨h', g, dr, tk', os⟩) :
    ∀ (k i : Nat) (xs : List (List Int × Addr × Value)) (h : Heap) (tk : Nat), k = prs.length - i → i ≤ prs.length → St prog w K mg mb h₀ L m ((I, .itr "list_iterator" #[.ref l, .int i 0]) :: (d, .kd xs) :: mu) fs h → (l, MO.ld (prs.map fun x => .tuple [pt x.1, x.2])) ∈ mu →
      xs.map (·.1) = (prs.take i).map (·.1) → (∀ (n : Nat) (p : List Int) (ka : Addr) (v : Value), xs[n]? = some (p, ka, v) → ∃ x, prs[n]? = some (p, x) ∧ TD h v x) →
      codeAny (model prog w) A (.builtin "dict.update.loop" ⟨[.ref d, .ref I, rawInt i, .none], []⟩) R ⟨h, g, dr, tk, os⟩ := by
  intro k
  induction k with
  | zero =>
    intro i xs h tk hk hi S hlm hxs hrel
    refine codeAny_builtin entry_dloop ?_
    have hit : h.IsListIter I l i := (S.mo (.head _) : (MO.itr _ _).Is prog w h I)
    obtain ⟨vs, n, e0, r⟩ := S.mo (.tail _ (.tail _ hlm))
    have hlen := r.length
    rw [List.length_map] at hlen
    have hi' : i = prs.length := by omega
    unfold Builtin.«dict.update.loop»
    refine wpAny_bind (wpAny_pyNext_list_end (by exact hh) hit (lobj_isList e0) (by simp [hlen, hi']) fun h' hs' => ?_)
    have S' : St prog w K mg mb h₀ L m ((d, .kd xs) :: mu) fs h' := S.turn (mu₁ := [(I, .itr "list_iterator" #[.ref l, .int i 0])]) (mu₂ := []) (mu := (d, .kd xs) :: mu) (fun b o hb e => hs' b o (fun q => hb (by simp [q])) e) (fun p hp => nomatch hp) (by simp)
    have tl : TLe h h' := S.tle fun b o _ hb e => hs' b o (fun q => hb (by simp [q])) e
    refine wpAny_bind (wpAny_pure (wpAny_pure ?_))
    exact done xs h' _ S' (by rw [hxs, hi', List.take_length]) fun n p ka v hn => by obtain ⟨x, h1, h2⟩ := hrel n p ka v hn; exact ⟨x, h1, h2.mono tl⟩
  | succ k ih =>
    intro i xs h tk hk hi S hlm hxs hrel
    refine codeAny_builtin entry_dloop ?_
    have hit : h.IsListIter I l i := (S.mo (.head _) : (MO.itr _ _).Is prog w h I)
    obtain ⟨vs, n, e0, r⟩ := S.mo (.tail _ (.tail _ hlm))
    have hlen := r.length
    rw [List.length_map] at hlen
    have hlt : i < prs.length := by omega
    obtain ⟨v, hv⟩ : ∃ v, vs[i]? = some v := ⟨vs[i]'(by omega), List.getElem?_eq_getElem _⟩
    obtain ⟨dd, hd, tv⟩ := r.getV hv
    unfold Builtin.«dict.update.loop»
    refine wpAny_bind (wpAny_pyNext_list_item hit (lobj_isList e0) (by simpa using hv) fun h' hit' hs' => ?_)
    obtain ⟨⟨p, x⟩, hpx, rfl⟩ : ∃ y, prs[i]? = some y ∧ PyData.tuple [pt y.1, y.2] = dd := by rw [List.getElem?_map] at hd; simpa using hd
    have hsx : ∀ b o, b ∉ [(I, MO.itr "list_iterator" #[.ref l, .int i 0])].map (·.1) → h.get? b = some o → h'.get? b = some o := fun b o hb e => hs'.extBut b o (fun q => hb (by simp [q])) e
    have S' : St prog w K mg mb h₀ L m ((I, .itr "list_iterator" #[.ref l, .int (i + 1 : Nat) 0]) :: (d, .kd xs) :: mu) fs h' := S.turn (mu₁ := [(I, .itr "list_iterator" #[.ref l, .int i 0])]) (mu₂ := [(I, .itr "list_iterator" #[.ref l, .int (i + 1 : Nat) 0])]) (mu := (d, .kd xs) :: mu) hsx
      (fun p hp => by rw [List.mem_singleton.mp hp]; exact ⟨hit', by simp⟩) (by simp)
    have tl : TLe h h' := S.tle fun b o _ hb e => hsx b o (fun q' => hb (by simp at q' ⊢; exact .inl q')) e
    have tv' := tv.mono tl
    obtain ⟨q, v1, v2, rfl, hq, tv1, tv2⟩ := pairShape tv'
    obtain ⟨oq, hoq, hcq, nq, hdq⟩ := id hq
    have hTq : ∀ tk', (⟨h', g, dr, tk', os⟩ : Shared).TypeIs (.ref q) "tuple" := fun _ => ⟨_, hoq, hcq⟩
    obtain ⟨ka, _, _, rfl, _, _⟩ := tv1.tup_inv
    have hk1 : atKey xs p = none := atKey_none' (by
      rw [hxs]
      intro hq'
      have := hnd.sublist (List.take_sublist (i + 1) (prs.map (·.1)))
      rw [← List.map_take, List.take_add_one, hpx, List.map_append] at this
      exact (List.nodup_append.mp this).2.2 p hq' p (by simp) rfl)
    have fin : ∀ h₂ tk₂, St prog w K mg mb h₀ L m ((I, .itr "list_iterator" #[.ref l, .int (i + 1 : Nat) 0]) :: (d, .kd (xs ++ [(p, ka, v2)])) :: mu) ((v2, x) :: fs) h₂ → TLe h' h₂ → codeAny (model prog w) A (.builtin "dict.update.loop" ⟨[.ref d, .ref I, rawInt (i + 1 : Nat), .none], []⟩) R ⟨h₂, g, dr, tk₂, os⟩ := by
      intro h₂ tk₂ S₂ tl2
      refine ih (i + 1) _ h₂ tk₂ (by omega) (by omega) (S₂.facts fun _ h => .tail _ h) hlm (by rw [List.map_append, hxs, List.take_add_one, hpx]; simp) ?_
      intro n' p' ka' v' hn'
      rcases Nat.lt_or_ge n' xs.length with hlt' | hge
      · rw [List.getElem?_append_left hlt'] at hn'
        obtain ⟨y, h1, h2⟩ := hrel n' p' ka' v' hn'
        exact ⟨y, h1, (h2.mono tl).mono tl2⟩
      · rw [List.getElem?_append_right hge] at hn'
        have hz : n' - xs.length = 0 := by
          rcases Nat.eq_zero_or_pos (n' - xs.length) with h | h
          · exact h
          · rw [List.getElem?_eq_none (by simp; omega)] at hn'; cases hn'
        rw [hz] at hn'
        simp only [List.getElem?_cons_zero, Option.some.injEq, Prod.mk.injEq] at hn'
        obtain ⟨rfl, rfl, rfl⟩ := hn'
        have hxl : xs.length = i := by have := congrArg List.length hxs; simp at this; omega
        exact ⟨x, by rw [show n' = i by omega]; exact hpx, S₂.td (.head _)⟩
    refine wpAny_bind (wpAny_holding (wpAny_bind ?_))
    unfold Builtin.Dict.pairItems
    refine wpAny_tryCatch ?_
    refine wpAny_bind (wpAny_typeOf (hTq _) ?_)
    rw [if_pos (by decide)]
    refine wpAny_bind (wpAny_seqItems hoq hdq (wpAny_pure ?_))
    have hroom : (KK prog w).room (A.under (.builtin "dict.update.loop" ⟨[.ref d, .ref I, rawInt i, .none], []⟩)) := by
      show A.units + Code.cUnits _ < cLine
      have : (Code.builtin "dict.update.loop" ⟨[Value.ref d, .ref I, rawInt i, .none], []⟩).cUnits ≤ 4 := by
        unfold Code.cUnits; simp [Code.frames]; split <;> omega
      omega
    refine wpAny_holding (wpAny_dictSet_heap hroom (tupKey tv1) (S'.mo (.tail _ (.head _))) (hsz := by have := congrArg List.length hxs; simp at this; simp only [sizeLine]; omega) fun h₂ hm₂ hs₂ => ?_)
    refine wpAny_pure ⟨Code.quiet_builtin _ (by decide +kernel), ?_⟩
    rw [storedH_new hk1] at hm₂
    have S₂ := (S'.fact tv2).upd (mu' := (I, .itr "list_iterator" #[.ref l, .int (i + 1 : Nat) 0]) :: (d, .kd (xs ++ [(p, ka, v2)])) :: mu) (.tail .head) hm₂ hs₂.extBut
    exact fin h₂ _ S₂ (S'.tle fun b o _ hb e => hs₂.extBut b o (fun q' => hb (by simp [q'])) e)
theorem r_dictL {l : Addr} (prs : List (List Int × PyData)) {Q : Value → Shared → Prop} (S : St prog w K mg mb h₀ L m mu fs h) (hlm : (l, MO.ld (prs.map fun x => .tuple [pt x.1, x.2])) ∈ mu) (hu : A.units + 50 < cLine) (hh : A.handled = none) (hnd : (prs.map (·.1)).Nodup) (hps : prs.length < 1000)
    (k : ∀ d xs h' tk', St prog w K mg mb h₀ L m ((d, .kd xs) :: mu) fs h' → xs.map (·.1) = prs.map (·.1) → (∀ (n : Nat) (p : List Int) (ka : Addr) (v : Value), xs[n]? = some (p, ka, v) → ∃ x, prs[n]? = some (p, x) ∧ TD h' v x) → Q (.ref d) ⟨h', g, dr, tk', os⟩) :
    wpAny (model prog w) A (call (.type "dict") [.ref l]) Q E ⟨h, g, dr, tk, os⟩ := by
  refine callType_codes (Q₁ := fun obj s₁ => obj = .ref h.objs.size ∧ s₁ = ⟨h.push { cls := .type "dict", data := .dict #[] }, g, dr, tk, os⟩) F.kt_called_dict (F.kt_typeCall_dict_1 _) F.entry_dict_init (kt_code_dict_new _ ⟨rfl, rfl⟩) ?_
  rintro obj s₁ ⟨rfl, rfl⟩
  have S1 := S.new (mo := .kd []) (Heap.DictOfH.new h)
  have hT : ∀ tk', (⟨h.push { cls := .type "dict", data := .dict #[] }, g, dr, tk', os⟩ : Shared).TypeIs (.ref h.objs.size) "dict" := fun _ => Heap.DictOfH.typeIs (S1.mo (.head _))
  refine ⟨hT _, F.args_dict_init_2 _ _, ?_⟩
  unfold Builtin.«dict.__init__»
  refine wpAny_bind ?_
  unfold Builtin.Dict.selfAndRest
  refine wpAny_bind (wpAny_notOrdered_dict (hT _) ?_)
  show wpAny _ _ (pure (h.objs.size, [Value.ref l])) _ _ _
  refine wpAny_pure ?_
  show wpAny _ _ (Builtin.Dict.updateFrom "dict.__init__" h.objs.size (.ref l) [] .none) _ _ _
  unfold Builtin.Dict.updateFrom
  obtain ⟨vs, n, e0, r⟩ := S1.mo (.tail _ hlm)
  refine wpAny_bind (wpAny_typeOf (lobj_isList e0).typeIs ?_)
  rw [if_pos (by decide)]
  refine wpAny_bind (list_no_keys e0 (by exact hh) fun h₂ tk₂ l₂ => ?_)
  rw [if_pos (by rfl : (none : Option Value).isNone = true)]
  have S2 := S1.ext l₂
  refine wpAny_bind (wpAny_rule (wpAny_bind (r_iterList S2 (lobj_isList (l₂ _ _ e0)) fun I h₃ tk₃ l₃ S3 => ?_)))
  refine wpAny_pure ⟨Code.quiet_builtin _ (by decide +kernel), ?_⟩
  exact dl_loop (A := A.in1) prs (fun _ _ _ _ _ _ => trivial) (by show A.units + 1 + 5 < cLine; omega) hh hnd hps (fun xs h' tk' S hx hr => ⟨rfl, k _ _ _ _ S hx hr⟩) prs.length 0 [] h₃ tk₃ rfl (Nat.zero_le _) S3 hlm (by simp) (fun n p ka v hn => by simp at hn)
end
theorem lay_wi {B n : Nat} {q : Pap} (hq : lay B q.d) (hB : n + 1 ≤ B) : ∀ {p : Path} {t u : Tm} {m : Nat}, t.at p = some u → t.fit m → m ≤ n → lay (B + 2 * p.length) (wi t p q).d
  | [], t, u, m, h, hf, hm => by simp only [wi]; exact hq
  | k :: r, t, u, 0, h, hf, hm => hf.elim
  | k :: r, t, u, m + 1, h, hf, hm => by
    obtain ⟨h0, x, hx, hr⟩ := Tm.at_cons h
    have ih := lay_wi hq hB hr (hf.2 x (List.mem_of_getElem? hx)) (by omega)
    rw [wi_cons hx]
    refine un_lay (n := B + 2 * r.length) (fun p hp => ?_) hf.1
    rcases kidsW_mem hp with rfl | ⟨kid, hk, rfl⟩
    · exact ih
    · have h1 := (hf.2 kid hk).lay
      rw [same_d]
      refine (lay_tup (n := B - 1) fun d hd => ?_).le (by omega)
      rcases List.mem_cons.mp hd with rfl | hd
      · exact lay_kind _ (by simp)
      · rw [List.mem_singleton.mp hd]; exact h1.le (by omega)
theorem pcsL_of {l : List Tm} {j i : Nat} {t : Tm} {y : Path × Tm} (h : l[j]? = some t) (hy : y ∈ pcs t) : (((i + j : Nat) : Int) :: y.1, y.2) ∈ pcsL i l := by
  induction l generalizing i j with
  | nil => simp at h
  | cons a l ih =>
    rw [pcsL, List.mem_append]
    cases j with
    | zero =>
      simp only [List.getElem?_cons_zero, Option.some.injEq] at h
      subst h
      exact .inl (List.mem_map.mpr ⟨y, hy, rfl⟩)
    | succ j =>
      have := ih (i := i + 1) (j := j) (by simpa using h)
      rw [show i + 1 + j = i + (j + 1) by omega] at this
      exact .inr this
theorem pcs_of_at : ∀ {p : Path} {t u : Tm}, t.at p = some u → (p, u) ∈ pcs t
  | [], t, u, h => by
    simp only [Tm.at, Option.some.injEq] at h
    subst h
    rw [pcs_eq]; exact .head _
  | k :: r, t, u, h => by
    obtain ⟨h0, x, hx, hr⟩ := Tm.at_cons h
    have := pcsL_of (i := 0) hx (pcs_of_at hr)
    rw [pcs_eq]
    refine .tail _ ?_
    rw [show ((0 + k.toNat : Nat) : Int) = k by omega] at this
    exact this
theorem pcs_nd : ∀ (n : Nat) (t : Tm), t.size ≤ n → ((pcs t).map (·.1)).Nodup
  | 0, t, h => by have := t.size_pos; omega
  | n + 1, t, h => by
    have h2 := t.size_kids
    have key : ∀ (l : List Tm) (i : Nat), zT l ≤ n → ((pcsL i l).map (·.1)).Nodup := by
      intro l
      induction l with
      | nil => intro i _; simp [pcsL]
      | cons a l ih =>
        intro i hz
        rw [zT] at hz
        rw [pcsL, List.map_append, List.map_map]
        refine List.nodup_append.mpr ⟨?_, ih (i + 1) (by omega), ?_⟩
        · have := pcs_nd n a (by omega)
          rw [show ((fun x : Path × Tm => x.1) ∘ fun x : Path × Tm => ((i : Int) :: x.1, x.2)) = (fun p : Path => (i : Int) :: p) ∘ (·.1) by rfl, ← List.map_map]
          exact this.map (f := fun p : Path => (i : Int) :: p) (fun a b hab he => hab (List.cons.inj he).2)
        · rintro u hu v hv rfl
          obtain ⟨x, hx, e1⟩ := List.mem_map.mp hu
          obtain ⟨y, hy, e⟩ := List.mem_map.mp hv
          obtain ⟨j, t', y', _, _, rfl⟩ := pcsL_mem hy
          have e1 : (i : Int) :: x.1 = u := e1
          have e : ((i + 1 + j : Nat) : Int) :: y'.1 = u := e
          rw [← e1] at e
          have := (List.cons.inj e).1
          omega
    rw [pcs_eq, List.map_cons, List.nodup_cons]
    refine ⟨fun hm => ?_, key t.kids 0 (by omega)⟩
    obtain ⟨y, hy, e⟩ := List.mem_map.mp hm
    obtain ⟨j, t', y', _, _, rfl⟩ := pcsL_mem hy
    cases e
section
variable {prog : Program} {w : World} {K : Frag} {mg mb : Str → Option Value} {h₀ h h' : Heap} {L : Addr} {m m' : Str → Option Value} {mu mu' mu₁ mu₂ : List (Addr × MO)} {fs fs' : List (Value × PyData)}
  {A : Around} {E : Value → Shared → Prop} {g : Array GenState} {dr : Drawn} {os : OsState} {tk : Nat} {env : Env}
theorem St.weak (S : St prog w K mg mb h₀ L m mu fs h) (hm : ∀ p ∈ mu', p.2.Is prog w h p.1 ∧ ∃ x, (p.1, x) ∈ mu) (nd : (mu'.map (·.1)).Nodup) : St prog w K mg mb h₀ L m mu' fs h :=
  ⟨⟨S.cx.gd, S.cx.keep, fun p hp => by obtain ⟨x, hx⟩ := (hm p hp).2; exact ⟨(hm p hp).1, (S.cx.mus (p.1, x) hx).2⟩, nd, S.cx.tds⟩, S.ns, S.off, fun p hp => by obtain ⟨x, hx⟩ := (hm p hp).2; exact S.ne (p.1, x) hx⟩
theorem r_asgR {elts : List Expr} {x1} {pos : Pos} {a : Addr} {j : Nat} {vs : List Value} {Q : Unit → Shared → Prop} (S : St prog w K mg mb h₀ L m mu fs h) (R : Rm A j) (hT : h.IsTuple a vs.toArray) (hn : (assignEach elts env).length = vs.length) (hstar : (assignEach elts env).findIdx? (·.1) = none)
    (k : ∀ h', Le h h' → St prog w K mg mb h₀ L m mu fs h' → wpAny (model prog w) A (assignInOrder ((assignEach elts env).map (·.2)) vs) Q E ⟨h', g, dr, tk, os⟩) : wpAny (model prog w) A (assign (.Tuple elts x1 pos) env (.ref a)) Q E ⟨h, g, dr, tk, os⟩ := by
  refine wpAny_assign_Tuple (items := vs.toArray) R.hh hT (by simpa using hn) hstar fun h' hx => ?_
  have l : Le h h' := fun b o e => hx b o (Nat.ne_of_lt (Heap.lt_size e)) e
  simpa using k h' l (S.ext l)
theorem St.front {l r : List (Addr × MO)} {e : Addr × MO} (S : St prog w K mg mb h₀ L m (l ++ e :: r) fs h) : St prog w K mg mb h₀ L m (e :: (l ++ r)) fs h :=
  S.sub (fun p hp => List.perm_middle.mem_iff.mpr hp) ((List.perm_middle.map Prod.fst).nodup_iff.mp S.cx.nd)
theorem St.gen {e : Addr × MO} {P : (Str → Option Value) → List (Addr × MO) → Prop} {G : Prop} (S : St prog w K mg mb h₀ L m (e :: mu) fs h) (hP : P m mu) (k : ∀ m mu, P m mu → St prog w K mg mb h₀ L m (e :: mu) fs h → G) : G := k m mu hP S
theorem r_newTuple' {vs : List Value} {ds : List PyData} {Q : Value → Shared → Prop} (S : St prog w K mg mb h₀ L m mu fs h) (t : TDs h vs ds)
    (k : ∀ a h' tk', St prog w K mg mb h₀ L m mu ((.ref a, .tuple ds) :: fs) h' → Q (.ref a) ⟨h', g, dr, tk', os⟩) (hsz : vs.length ≤ sizeLine) :
    wpAny (model prog w) A (newTuple vs) Q E ⟨h, g, dr, tk, os⟩ := r_newTuple S t (fun a h' tk' _ => k a h' tk') hsz
theorem r_addT' {a b : Addr} {ds es : List PyData} {Q : Value → Shared → Prop} (S : St prog w K mg mb h₀ L m mu fs h) (t : TD h (.ref a) (.tuple ds)) (u : TD h (.ref b) (.tuple es))
    (k : ∀ c h' tk', St prog w K mg mb h₀ L m mu ((.ref c, .tuple (ds ++ es)) :: fs) h' → Q (.ref c) ⟨h', g, dr, tk', os⟩) (hsz : ds.length + es.length ≤ sizeLine) :
    wpAny (model prog w) A (binaryOp .Add (.ref a) (.ref b)) Q E ⟨h, g, dr, tk, os⟩ := r_addT S t u (fun a h' tk' _ => k a h' tk') hsz
theorem r_newList' {vs : List Value} {ds : List PyData} {Q : Value → Shared → Prop} (S : St prog w K mg mb h₀ L m mu fs h) (t : TDs h vs ds)
    (k : ∀ a h' tk', St prog w K mg mb h₀ L m ((a, .ld ds) :: mu) fs h' → Q (.ref a) ⟨h', g, dr, tk', os⟩) (hsz : vs.length ≤ sizeLine) :
    wpAny (model prog w) A (newList vs) Q E ⟨h, g, dr, tk, os⟩ := r_newList S t (fun a h' tk' _ => k a h' tk') hsz
theorem r_newSD' {pos : Pos} {Q : Value → Shared → Prop} (S : St prog w K mg mb h₀ L m mu fs h) (k : ∀ d h' tk', St prog w K mg mb h₀ L m ((d, .sd []) :: mu) fs h' → Q (.ref d) ⟨h', g, dr, tk', os⟩) :
    wpAny (model prog w) A (eval (.Dict [] [] pos) env) Q E ⟨h, g, dr, tk, os⟩ := r_newSD S (fun a h' tk' _ => k a h' tk')
theorem St.genM {P : (Str → Option Value) → Prop} {G : Prop} (S : St prog w K mg mb h₀ L m mu fs h) (hP : P m) (k : ∀ m, P m → St prog w K mg mb h₀ L m mu fs h → G) : G := k m hP S
theorem gen_F {M : Model} {t : Sem Flow} {s : Shared} {H B : Shared → Prop} {R : Value → Shared → Prop} (k : ∀ Q : Flow → Shared → Prop, (∀ s, H s → Q .next s) → wpAny M A t Q E s) :
    wpAny M A t (fun fl s₄ => match fl with
        | .next | .cont => H s₄
        | .brk => B s₄
        | .ret v => R v s₄) E s := k _ (fun _ h => h)
theorem r_whileQ {test : Expr} {body : List Stmt} {pos : Pos} {s : Shared} {Q : Flow → Shared → Prop} (I : Nat → Shared → Prop) (n : Nat) (hI : I n s)
    (turn : ∀ n s, I n s → ∀ R : Flow → Shared → Prop, (∀ s m, m < n → I m s → R .next s) → wpAny (model prog w) A (isTrue test env (eval test env)) (fun b s₂ => if b then wpAny (model prog w) A (execs body env) R noE s₂ else Q .next s₂) noE s) :
    wpAny (model prog w) A (exec (.While test body [] pos) env) Q E s := r_while I n hI fun n s hi => turn n s hi _ (fun s m a b => Hold.mk ⟨m, a, b⟩)
theorem gen_Q {α : Type} {M : Model} {t : Sem α} {Q₀ : α → Shared → Prop} {s : Shared} {P : (α → Shared → Prop) → Prop} (hP : P Q₀) (H : ∀ Q, P Q → wpAny M A t Q E s) : wpAny M A t Q₀ E s := H Q₀ hP
theorem r_callW {f : Value} {first : List Value} {pos : Pos} {e : Expr} {rest : List Expr} {Q : Value → Shared → Prop} (S : St prog w K mg mb h₀ L m mu fs h) (hk : keepIn K f = true)
    (k : wpAny (model prog w) A (spliced (backTo pos (starEach (e :: rest) env))) (fun vs s₁ => K.In s₁.heap ∧ wpAny (model prog w) A (call f (first ++ vs)) Q E s₁) E ⟨h, g, dr, tk, os⟩)
    (he : starEach (e :: rest) env = (false, eval e env) :: starEach rest env := by k_dflt rfl) (hplain : (backTo pos (starEach rest env)).any (·.1) = false := by k_dflt rfl) :
    wpAny (model prog w) A (callWith pos f first (backTo pos (starEach (e :: rest) env)) []) Q E ⟨h, g, dr, tk, os⟩ := callWith_K S.gdh.inK hk k he hplain
end
theorem ndB1 {a b c d e : Addr} (h : [a, b, c, d, e].Nodup) : [a, c, d, e].Nodup := by
  simp only [List.nodup_cons, List.mem_cons, List.not_mem_nil, or_false, not_or, List.nodup_nil] at h ⊢
  exact ⟨⟨h.1.2.1, h.1.2.2⟩, h.2.2⟩
end Mine
set_option maxHeartbeats 40000000
set_option rowWalk.seconds 0
namespace Mine
theorem fill (w : World) : (Mine.hd.heap_1 w.params) = (Mine.hd.heap_1 w.params) ∧ PySem.Challenge.rw_rh0006_01.row.prog = PySem.Challenge.rw_rh0006_01.row.prog := by k_fill; exact ⟨rfl, rfl⟩
local macro_rules | `(tactic| ktr_units) => `(tactic| first | exact Nat.le_of_ble_eq_true rfl | decide | assumption | omega | (simp [sizeLine]; done) | (simp [sizeLine]; omega))
local macro_rules | `(tactic| kqd_in) => `(tactic| first | exact TD.int _ _ | exact TD.str _ _ | exact TD.bool _ | exact St.td (by assumption) (by k_mem))
local macro_rules | `(tactic| kqd_all) => `(tactic| first | exact TDs.nil | exact TDs.cons (by kqd_in) (by kqd_all))
local macro_rules | `(tactic| k_qdec) => `(tactic| decide +kernel)
local macro_rules | `(tactic| walk_at $s:str) => `(tactic| k_extra $s)
theorem with_macros : True := by
  k_with "eval Name" =>
    first
      | with_reducible refine r_loc (by k_dflt assumption) (by k_dflt (first | rfl | assumption)) ?_
      | with_reducible refine r_cell (by k_dflt rfl) (St.mo (by k_dflt assumption) (by k_dflt k_mem)) ?_
      | with_reducible refine r_cell (by k_dflt rfl) (Outer.at (by k_dflt assumption) (by k_dflt assumption) (by k_dflt k_mem)) ?_
      | (with_reducible refine r_cellI (by k_dflt rfl) (St.mo (by k_dflt assumption) (by k_dflt k_mem)) ?_; intro _)
      | (with_reducible refine r_cellI (by k_dflt rfl) (Outer.at (by k_dflt assumption) (by k_dflt assumption) (by k_dflt k_mem)) ?_; intro _)
      | ((rename St .. => S0); (with_reducible refine r_cellT S0 (by k_dflt rfl) (St.mo S0 (by k_dflt k_mem)) ?_); clear S0; intro _ _)
      | ((rename St .. => S0); (with_reducible refine r_cellT S0 (by k_dflt rfl) (Outer.at (by k_dflt assumption) S0 (by k_dflt k_mem)) ?_); clear S0; intro _ _)
      | ((rename St .. => S0); (with_reducible refine r_cellD S0 (by k_dflt rfl) (St.mo S0 (by k_dflt k_mem)) ?_); clear S0; intro _ _)
      | ((rename St .. => S0); (with_reducible refine r_cellD S0 (by k_dflt rfl) (Outer.at (by k_dflt assumption) S0 (by k_dflt k_mem)) ?_); clear S0; intro _ _)
      | with_reducible refine r_glob (by k_dflt assumption) (by k_dflt k_is) ?_
      | with_reducible refine r_bi (by k_dflt assumption) (by k_dflt k_is) (by k_dflt (with_reducible first | exact b_len | exact b_isinstance | exact b_tuple | exact b_str | exact b_range | exact b_enumerate | exact b_reversed | exact b_dict | exact b_int)) ?_
  k_with "newTuple" =>
    ((rename St .. => S0); (with_reducible refine r_newTuple' S0 (by k_dflt kqd_all) ?_ (by k_dflt ktr_units)); clear S0; intro _ _ _ _)
  k_with "storeName" =>
    first
      | ((rename St .. => S0); (with_reducible refine r_store S0 ?_); clear S0; intro _ _ _)
      | ((rename St .. => S0); (with_reducible refine r_storeCD S0 (by k_dflt kqd_in) (by k_dflt rfl) (by k_dflt (repeat (first | exact Up.head | apply Up.tail))) (by k_dflt (first | assumption | exact .inl rfl | exact .inr (.inl ⟨_, rfl⟩) | exact .inr (.inr ⟨_, rfl⟩))) ?_); clear S0; intro _ _ _)
  k_with "binaryOp Add ref ref" =>
    ((rename St .. => S0); (with_reducible refine r_addT' S0 (by k_dflt kqd_in) (by k_dflt kqd_in) ?_ (by k_dflt ktr_units)); clear S0; intro _ _ _ _)
  k_with "sub5" =>
    first
      | (with_reducible refine r_item_i (by k_dflt kqd_in) (by k_dflt ktr_units) (by k_dflt ktr_units) (by k_dflt rfl) ?_; intro _)
      | (with_reducible refine r_item_s (by k_dflt kqd_in) (by k_dflt ktr_units) (by k_dflt ktr_units) (by k_dflt rfl) ?_; intro _)
      | (with_reducible refine r_item_b (by k_dflt kqd_in) (by k_dflt ktr_units) (by k_dflt ktr_units) (by k_dflt (first | rfl | assumption)) ?_)
      | ((rename St .. => S0); (with_reducible refine r_item_t S0 (by k_dflt kqd_in) (by k_dflt ktr_units) (by k_dflt ktr_units) (by k_dflt (first | rfl | assumption)) ?_); clear S0; intro _ _)
      | ((rename St .. => S0); (with_reducible refine r_itemX S0 (by k_dflt kqd_in) (by k_dflt ktr_units) (by k_dflt ktr_units) (by k_dflt (first | rfl | assumption)) ?_); clear S0; intro _ _)
  k_with "subscriptTail Name Constant ref int" =>
    walk_at "sub5"
  k_with "sub2" =>
    first
      | ((rename St .. => S0); (with_reducible refine r_slFrom S0 (by k_dflt kqd_in) (by k_dflt ktr_units) (by k_dflt ktr_units) ?_ (by k_dflt ktr_units)); clear S0; intro _ _ _ le9 _; clear le9)
      | ((rename St .. => S0); (with_reducible refine r_slUpto S0 (by k_dflt kqd_in) (by k_dflt ktr_units) (by k_dflt ktr_units) ?_ (by k_dflt ktr_units)); clear S0; intro _ _ _ le9 _; clear le9)
  k_with "subscriptTail Name Slice ref ref" =>
    walk_at "sub2"
  k_with "compareOp In str ref" =>
    first
      | with_reducible refine r_inT2b (by k_dflt kqd_in) (by k_dflt assumption) ?_
      | with_reducible refine r_inT2b (b := true) (by k_dflt kqd_in) (by k_dflt decide) ?_
      | with_reducible refine r_inT2b (b := false) (by k_dflt kqd_in) (by k_dflt decide) ?_
  k_with "newList" =>
    ((rename St .. => S0); (with_reducible refine r_newList' S0 (by k_dflt kqd_all) ?_ (by k_dflt ktr_units)); clear S0; intro _ _ _ _)
  k_with "ite" =>
    first
      | with_reducible refine ite_T_iff ?_
      | with_reducible refine ite_F_iff ?_
      | with_reducible refine ite_true_iff ?_
      | with_reducible refine ite_false_iff ?_
      | with_reducible refine ite_is_true (by kernel_rfl!) ?_
      | with_reducible refine ite_is_false (by kernel_rfl!) ?_
  k_with "callWith ref" =>
    (with_reducible refine r_callW (by k_dflt assumption) (by k_dflt k_is) ?_)
  k_with "getMethod ref" =>
    first
      | with_reducible refine r_gmD PySem.F.slot_list_pop PySem.F.type_list_pop (St.mo (by k_dflt assumption) (by k_dflt k_mem)) ?_
      | with_reducible refine r_gmD PySem.F.slot_list_extend PySem.F.type_list_extend (St.mo (by k_dflt assumption) (by k_dflt k_mem)) ?_
      | with_reducible refine r_gmD PySem.F.slot_list_append PySem.F.type_list_append (St.mo (by k_dflt assumption) (by k_dflt k_mem)) ?_
      | with_reducible refine r_gmD PySem.F.slot_list_reverse PySem.F.type_list_reverse (St.mo (by k_dflt assumption) (by k_dflt k_mem)) ?_
  k_with "call builtin:len" =>
    first
      | (with_reducible refine r_lenT (by k_dflt kqd_in) (by k_dflt ktr_units) ?_; intro _ _)
      | (with_reducible refine r_lenL (St.mo (by k_dflt assumption) (by k_dflt k_mem)) (by k_dflt ktr_units) ?_; intro _ _)
      | (with_reducible refine r_lenL (MO.Is.le (by k_dflt assumption) (Cx.keep (St.cx (by k_dflt assumption)))) (by k_dflt ktr_units) ?_; intro _ _)
  k_with "call builtin:isinstance" =>
    first | with_reducible refine r_isiT (by k_dflt kqd_in) ?_ | with_reducible refine r_isiS ?_
  k_with "call builtin:list.pop" =>
    first | ((rename St .. => S0); (with_reducible refine r_popT S0 (by k_dflt (repeat (first | exact Up.head | apply Up.tail))) ?_ (by k_dflt ktr_units)); clear S0; intro _ _ _ _) | ((rename St .. => S0); (with_reducible refine r_pop S0 (by k_dflt (repeat (first | exact Up.head | apply Up.tail))) ?_ (by k_dflt ktr_units)); clear S0; intro _ _ _ _)
  k_with "call builtin:list.extend" =>
    first
      | ((rename St .. => S0); (with_reducible refine r_extendT S0 (by k_dflt (repeat (first | exact Up.head | apply Up.tail))) (by k_dflt kqd_in) ?_ (by k_dflt ktr_units)); clear S0; intro _ _ _)
      | ((rename St .. => S0); (with_reducible refine r_extendL S0 (by k_dflt (repeat (first | exact Up.head | apply Up.tail))) (St.mo S0 (by k_dflt k_mem)) ?_ (by k_dflt ktr_units)); clear S0; intro _ _ _)
  k_with "call builtin:list.append" =>
    ((rename St .. => S0); (with_reducible refine r_appendD S0 (by k_dflt (repeat (first | exact Up.head | apply Up.tail))) (by k_dflt kqd_in) ?_ (by k_dflt ktr_units)); clear S0; intro _ _ _)
  k_with "call builtin:list.reverse" =>
    ((rename St .. => S0); (with_reducible refine r_reverse S0 (by k_dflt (repeat (first | exact Up.head | apply Up.tail))) ?_ (by k_dflt ktr_units)); clear S0; intro _ _ _)
  k_with "subscriptTail" =>
    walk_at "sub5"
  k_with "subscriptTail" =>
    ((with_reducible show wpAny _ _ (subscriptTail _ (Expr.Slice _ _ _ _) (Value.str _ _) (Value.ref _)) _ _ _); (rename St .. => S0); (with_reducible refine r_slS S0 ?_ (by k_dflt ktr_units)); clear S0; intro _ _ _ _)
  k_with "subscriptTail" =>
    ((with_reducible show wpAny _ _ (subscriptTail _ (Expr.Slice _ _ _ _) (Value.ref _) (Value.ref _)) _ _ _); walk_at "sub2")
  k_with "call builtin:len" =>
    first
      | (with_reducible refine r_lenTn (n := 1) (z := 1) (by k_dflt kqd_in) (by k_dflt rfl) (by k_dflt rfl) (by k_dflt decide) ?_; intro _ _)
      | (with_reducible refine r_lenTn (n := 2) (z := 2) (by k_dflt kqd_in) (by k_dflt rfl) (by k_dflt rfl) (by k_dflt decide) ?_; intro _ _)
      | (with_reducible refine r_lenTn (n := 3) (z := 3) (by k_dflt kqd_in) (by k_dflt rfl) (by k_dflt rfl) (by k_dflt decide) ?_; intro _ _)
      | (with_reducible refine r_lenTn (n := 0) (z := 0) (by k_dflt kqd_in) (by k_dflt rfl) (by k_dflt rfl) (by k_dflt decide) ?_; intro _ _)
  k_with "unpackItems ref" =>
    first
      | ((rename St .. => S0); (with_reducible refine r_unpack2_si S0 (by k_dflt assumption) (by k_dflt kqd_in) (by k_dflt rfl) ?_); clear S0; intro _ _ _ _)
      | ((rename St .. => S0); (with_reducible refine r_unpack2 S0 (by k_dflt assumption) (by k_dflt kqd_in) (by k_dflt rfl) ?_); clear S0; intro _ _ _ _)
  k_with "assign Tuple" =>
    ((rename St .. => S0); (with_reducible refine r_asg2 S0 (by k_dflt assumption) (by k_dflt kqd_in) (by k_dflt rfl) (by k_dflt rfl) ?_); clear S0; intro _ _ _ _)
  k_with "call type:enumerate" =>
    ((rename St .. => S0); (with_reducible refine r_enumT S0 (by k_dflt kqd_in) ?_); clear S0; intro _ _ _ _ _)
  k_with "call type:range" =>
    first
      | ((rename St .. => S0); (with_reducible refine r_range1 S0 ?_); clear S0; intro _ _ _ _ _ _ _)
      | ((rename St .. => S0); (with_reducible refine r_range3 S0 (by k_dflt decide) (PyProof.noPylong_small (by k_dflt decide)) ?_); clear S0; intro _ _ _ _)
  k_with "call type:reversed" =>
    ((rename St .. => S0); (with_reducible refine r_rev S0 (St.mo S0 (by k_dflt k_mem)) ?_); clear S0; intro _ _ _ le9 _; clear le9)
  k_with "subscriptTail" =>
    first
      | ((with_reducible show wpAny _ _ (subscriptTail _ _ (Value.ref _) (Value.str (Str.ofString "row") _)) _ _ _); (with_reducible refine r_feedRow (St.mo (by k_dflt assumption) (by k_dflt k_mem)) ?_); intro _)
      | ((with_reducible show wpAny _ _ (subscriptTail _ _ (Value.ref _) (Value.str (Str.ofString "at") _)) _ _ _); (with_reducible refine r_feedAt (St.mo (by k_dflt assumption) (by k_dflt k_mem)) ?_); intro _)
      | ((with_reducible show wpAny _ _ (subscriptTail _ _ (Value.ref _) (Value.str _ _)) _ _ _); (with_reducible refine r_getSD (St.mo (by k_dflt assumption) (by k_dflt k_mem)) (by k_dflt rfl) ?_); intro _)
  k_with "setItem" =>
    ((with_reducible show wpAny _ _ (setItem (Value.ref _) (Value.str _ _) _) _ _ _); (rename St .. => S0); (with_reducible refine r_feedSet S0 (by k_dflt (repeat (first | exact Up.head | apply Up.tail))) ?_); clear S0; intro _ _ _)
  k_with "subscriptTail" =>
    ((with_reducible show wpAny _ _ (subscriptTail _ _ (Value.ref _) (Value.int _ _)) _ _ _); (with_reducible refine r_itemLI (MO.Is.le (by k_dflt assumption) (Cx.keep (St.cx (by k_dflt assumption)))) (by k_dflt ktr_units) (by k_dflt ktr_units) (by k_dflt assumption) ?_); intro _)
  trivial
theorem reset_1 : True := by w_top off; trivial
section
variable {w : World} {mg mb : Str → Option Value} {h₀ h : Heap} {A : Around} {E : Value → Shared → Prop} {g : Array GenState} {dr : Drawn} {os : OsState} {tk : Nat}
theorem c_deeper {a : Addr} {i : Int} {t : Tok} {p : List PyData} {d1 d2 d3 d4 : PyData} {Q : Value → Shared → Prop}
    (G : Gd (Mine.hd.heap_1 w.params) mg mb h) (R : Rm A 1) (T : TD h (.ref a) (.tuple [.tuple p, d1, d2, d3, d4])) (hp : p.length < 1000)
    (k : ∀ r h' tk', Le h h' → TD h' r (.tuple [.tuple (.int i :: p), d1, d2, d3, d4]) → Q r ⟨h', g, dr, tk', os⟩) :
    wpAny (model PySem.Challenge.rw_rh0006_01.row.prog w) A (call (.ref 231) [.ref a, .int i t]) Q E ⟨h, g, dr, tk, os⟩ := by
  refine enter [("step", .ref a), ("k", .int i t)] (cx0 G T) R (by k_is) (by k_is) rfl rfl (by rfl) ?_
  intro A' L h₁ tk₁ R₁ S
  repeat' walk1
  rename St _ _ _ _ _ _ _ _ _ _ _ => S
  exact k _ _ _ S.cx.keep (S.td (by k_mem))

theorem c_turned {a : Addr} {d0 d1 d2 d3 : PyData} {b : Bool} {Q : Value → Shared → Prop}
    (G : Gd (Mine.hd.heap_1 w.params) mg mb h) (R : Rm A 1) (T : TD h (.ref a) (.tuple [d0, d1, d2, d3, .bool b]))
    (k : ∀ r h' tk', Le h h' → TD h' r (.tuple [d0, d1, d2, d3, .bool (!b)]) → Q r ⟨h', g, dr, tk', os⟩) :
    wpAny (model PySem.Challenge.rw_rh0006_01.row.prog w) A (call (.ref 224) [.ref a]) Q E ⟨h, g, dr, tk, os⟩ := by
  refine enter [("step", .ref a)] (cx0 G T) R (by k_is) (by k_is) rfl rfl (by rfl) ?_
  intro A' L h₁ tk₁ R₁ S
  repeat' walk1
  rename St _ _ _ _ _ _ _ _ _ _ _ => S
  exact k _ _ _ S.cx.keep (S.td (by k_mem))

theorem TmRef {h : Heap} {v : Value} {t : Tm} (T : TD h v t.d) : ∃ a, v = .ref a := by
  rw [Tm.d_eq] at T; obtain ⟨a, _, _, rfl, _⟩ := T.tup_inv; exact ⟨a, rfl⟩
theorem PapRef {h : Heap} {v : Value} {t : Pap} (T : TD h v t.d) : ∃ a, v = .ref a := by
  cases t <;> (simp only [Pap.d] at T; obtain ⟨a, _, _, rfl, _⟩ := T.tup_inv; exact ⟨a, rfl⟩)
theorem c_parts_of0 {v : Value} {p : Pap} {Q : Value → Shared → Prop}
    (G : Gd (Mine.hd.heap_1 w.params) mg mb h) (R : Rm A 1) (T : TD h v p.d)
    (k : ∀ r h' tk', Le h h' → TD h' r (.tuple (p.parts.map Pap.d)) → Q r ⟨h', g, dr, tk', os⟩) :
    wpAny (model PySem.Challenge.rw_rh0006_01.row.prog w) A (call (.ref 126) [v]) Q E ⟨h, g, dr, tk, os⟩ := by
  obtain ⟨a, rfl⟩ := PapRef T
  cases p
  all_goals
    simp only [Pap.d, Pap.parts, List.map_nil, dP_map, List.map_cons] at T k
    refine enter [("paper", .ref a)] (cx0 G T) R (by k_is) (by k_is) rfl rfl (by rfl) ?_
    intro A' L h₁ tk₁ R₁ S
    repeat' walk1
    rename St _ _ _ _ _ _ _ _ _ _ _ => S
    exact k _ _ _ S.cx.keep (S.td (by k_mem))
theorem c_parts_of {v : Value} {p : Pap} {Q : Value → Shared → Prop}
    (G : Gd (Mine.hd.heap_1 w.params) mg mb h) (R : Rm A 1) (T : TD h v p.d)
    (k : ∀ b h' tk', Le h h' → TD h' (.ref b) (.tuple (p.parts.map Pap.d)) → Q (.ref b) ⟨h', g, dr, tk', os⟩) :
    wpAny (model PySem.Challenge.rw_rh0006_01.row.prog w) A (call (.ref 126) [v]) Q E ⟨h, g, dr, tk, os⟩ :=
  c_parts_of0 G R T fun r h' tk' l T' => by obtain ⟨b, _, _, rfl, _⟩ := T'.tup_inv; exact k b h' tk' l T'
end
theorem reset_2 : True := by w_top off; trivial
section
variable {w : World} {mg mb : Str → Option Value} {h₀ h : Heap} {A : Around} {E : Value → Shared → Prop} {g : Array GenState} {dr : Drawn} {os : OsState} {tk : Nat}
theorem c_plain {v : Value} {t : Tm} {Q : Value → Shared → Prop}
    (G : Gd (Mine.hd.heap_1 w.params) mg mb h) (R : Rm A 1) (T : TD h v t.d) (ht : t.ok) (hz : t.size < 1000)
    (k : ∀ h' tk', Le h h' → Q (.bool true) ⟨h', g, dr, tk', os⟩) :
    wpAny (model PySem.Challenge.rw_rh0006_01.row.prog w) A (call (.ref 133) [v]) Q E ⟨h, g, dr, tk, os⟩ := by
  obtain ⟨a, rfl⟩ := TmRef T
  refine enter [("thing", .ref a)] (cx0 G T) R (by k_is) (by k_is) rfl rfl (by rfl) ?_
  intro A' L h₁ tk₁ R₁ S
  iterate 6 walk1
  refine r_newList S (.one (S.td (by k_mem))) ?_ (by ktr_units)
  intro l h₂ tk₂ _ S
  walk1
  walk1
  rename St _ _ _ _ _ _ _ _ _ _ _ => S
  refine r_whileQ (fun n s => ∃ m h tk ts, n = zT ts ∧ s = ⟨h, g, dr, tk, os⟩ ∧ m "waiting" = some (.ref l) ∧ (∀ t ∈ ts, t.ok) ∧ zT ts < 1000 ∧ St PySem.Challenge.rw_rh0006_01.row.prog w (Mine.hd.heap_1 w.params) mg mb _ L m [(l, .ld (ts.map Tm.d))] [] h) (zT [t])
    ⟨_, _, _, [t], rfl, rfl, rfl, by simpa using ht, by simpa [zT] using hz, S.bare⟩ ?_
  clear S
  rintro n s ⟨m, h, tk, ts, rfl, rfl, hm, hok, hz, S⟩ Rn hRn
  rcases ts.eq_nil_or_concat with rfl | ⟨ts', ⟨op, ks⟩, rfl⟩
  · repeat' walk1
    exact k _ _ S.cx.keep
  · have ho := (Tm.ok_iff _).mp (hok (.mk op ks) (by simp))
    have hop1 := gOps_len ho.1
    have hop2 := gOps_in ho.1
    simp only [List.concat_eq_append, List.map_append, List.map_cons, List.map_nil] at S hz hok
    have hl : ts'.length < 1000 := by have := len_zT ts'; simp [zT_append] at hz; omega
    have hl2 : ks.length < 1000 := by have := len_zT ks; simp [zT_append, zT, Tm.size] at hz; omega
    simp only [Tm.d, dT_map] at S
    simp only [Tm.op, Tm.kids] at hop1 hop2
    repeat' walk1
    all_goals first | (exfalso; simp only [List.length_append, List.length_cons, List.length_nil] at *; omega) | skip
    rename St _ _ _ _ _ _ _ _ _ _ _ => S
    have S' := S.bare
    rw [show List.map Tm.d ts' ++ List.drop (Int.toNat 1) (PyData.str op :: List.map Tm.d ks) = (ts' ++ ks).map Tm.d by rw [List.map_append]; rfl] at S'
    refine hRn _ (zT (ts' ++ ks)) ?_ ⟨_, _, _, ts' ++ ks, rfl, rfl, ?_, fun t ht => ?_, ?_, S'⟩
    · simp [zT_append, zT, Tm.size]
    · exact hm
    · rcases List.mem_append.mp ht with ht | ht
      · exact hok t (List.mem_append_left _ ht)
      · exact ho.2 t ht
    · simp [zT_append, zT, Tm.size] at hz ⊢; omega

theorem c_plain1 {a : Addr} {op : Str} {Q : Value → Shared → Prop}
    (G : Gd (Mine.hd.heap_1 w.params) mg mb h) (R : Rm A 1) (T : TD h (.ref a) (.tuple [.str op])) (ht : op ∈ gOps)
    (k : ∀ h' tk', Le h h' → Q (.bool true) ⟨h', g, dr, tk', os⟩) :
    wpAny (model PySem.Challenge.rw_rh0006_01.row.prog w) A (call (.ref 133) [.ref a]) Q E ⟨h, g, dr, tk, os⟩ :=
  c_plain (t := .mk op []) G R T ((Tm.ok_iff _).mpr ⟨ht, fun k hk => nomatch hk⟩) (by simp [Tm.size, zT]) k
end
theorem reset_3 : True := by w_top off; trivial
theorem with_g3 : True := by
  k_with "call ref" =>
    first
      | ((rename St .. => S0); (with_reducible refine c_plain (St.gdh S0) (Rm.le (by k_dflt assumption) (by k_dflt omega)) (by k_dflt kqd_in) (by k_dflt assumption) (by k_dflt assumption) ?_); intro _ _ le9; have S9 := S0.ext le9; clear S0 le9; revert S9; intro _)
      | ((rename St .. => S0); (with_reducible refine c_plain1 (St.gdh S0) (Rm.le (by k_dflt assumption) (by k_dflt omega)) (by k_dflt kqd_in) (by k_dflt assumption) ?_); intro _ _ le9; have S9 := S0.ext le9; clear S0 le9; revert S9; intro _)
  trivial
section
variable {w : World} {mg mb : Str → Option Value} {h₀ h : Heap} {A : Around} {E : Value → Shared → Prop} {g : Array GenState} {dr : Drawn} {os : OsState} {tk : Nat}
theorem c_form {v : Value} {p : Pap} {Q : Value → Shared → Prop}
    (G : Gd (Mine.hd.heap_1 w.params) mg mb h) (R : Rm A 2) (T : TD h v p.d) (hp : p.ok)
    (k : ∀ h' tk', Le h h' → Q (.bool true) ⟨h', g, dr, tk', os⟩) :
    wpAny (model PySem.Challenge.rw_rh0006_01.row.prog w) A (call (.ref 145) [v]) Q E ⟨h, g, dr, tk, os⟩ := by
  obtain ⟨a, rfl⟩ := PapRef T
  cases p
  all_goals
    simp only [Pap.d, Pap.parts, List.map_nil, dP_map, List.map_cons, Pap.ok] at T hp
    first | (obtain ⟨hp1, hp2⟩ := hp) | skip
    refine enter [("thing", .ref a)] (cx0 G T) R (by k_is) (by k_is) rfl rfl (by rfl) ?_
    intro A' L h₁ tk₁ R₁ S
    repeat' (first
      | ((with_reducible show wpAny _ _ (eval (Expr.Name _ _) _) _ _ _); (walk_at "eval Name"))
      | walk1)
    all_goals first
      | exact Gd.inK (St.gdh (by assumption))
      | ((rename St .. => S); exact k _ _ S.cx.keep)
end
theorem reset_4 : True := by w_top off; trivial
section
variable {w : World} {mg mb : Str → Option Value} {h₀ h : Heap} {A : Around} {E : Value → Shared → Prop} {g : Array GenState} {dr : Drawn} {os : OsState} {tk : Nat}
theorem c_part_at {v : Value} {b : Addr} {t u : Tm} {p : Path} {Q : Value → Shared → Prop}
    (G : Gd (Mine.hd.heap_1 w.params) mg mb h) (R : Rm A 1) (T : TD h v t.d) (TP : TD h (.ref b) (pt p)) (hz : t.size < 1000) (hu : t.at p = some u)
    (k : ∀ r h' tk', Le h h' → TD h' r (u.d) → Q r ⟨h', g, dr, tk', os⟩) :
    wpAny (model PySem.Challenge.rw_rh0006_01.row.prog w) A (call (.ref 119) [v, .ref b]) Q E ⟨h, g, dr, tk, os⟩ := by
  refine enter [("t", v), ("path", .ref b)] ((cx0 G T).fact TP) R (by k_is) (by k_is) rfl rfl (by rfl) ?_
  intro A' L h₁ tk₁ R₁ S
  walk1
  refine wpAny_For ?_
  repeat' walk1
  refine r_iterTup S (S.td (.head _)) ?_
  intro I h₂ tk₂ S
  refine r_fl (head_tup (ds := p.map .int) R₁.hh rfl rfl) (fun i m mu fs => mu = [] ∧ (.ref b, pt p) ∈ fs ∧ ∃ x y, t.at (p.take i) = some x ∧ m "t" = some y ∧ (y, x.d) ∈ fs) ?_ ⟨rfl, .head _, t, v, by simp [Tm.at], rfl, .tail _ (.head _)⟩ S ?_ ?_
  · rintro i m mu fs h hi ⟨rfl, hf, _⟩ S
    exact S.td hf
  · rintro i hi bb f m mu fs h tk ⟨vk, dk, hk, rfl, rfl⟩ ⟨rfl, hf, x, y, hx, hm, hy⟩ S
    refine gen_F fun Qn hQn => ?_
    obtain ⟨k, x', z, hk', h0, hx', hz', hn⟩ := Tm.at_step hu (i := i) (by simpa using hi)
    rw [hx] at hx'; cases hx'
    obtain rfl : dk = .int k := by simpa [hk'] using hk.symm
    obtain ⟨t9, rfl⟩ := (S.td (.head _)).int_inv
    have hT := S.td (.tail _ hy)
    obtain ⟨ya, rfl⟩ := TmRef hT
    obtain ⟨op, ks⟩ := x
    have hlen : (PyData.str op :: ks.map Tm.d).length < 1000 := by have := len_zT ks; have := Tm.at_size hx; simp [Tm.size] at this; simp; omega
    have hkl : k.toNat < ks.length := (List.getElem?_eq_some_iff.mp hz').1
    have hkk : k < ks.length := by omega
    have hzd : (PyData.str op :: ks.map Tm.d)[(k + 1).toNat]? = some z.d := by
      rw [show (k + 1).toNat = k.toNat + 1 by omega, List.getElem?_cons_succ, List.getElem?_map]
      simp only [Tm.kids] at hz'
      rw [hz']; rfl
    simp only [Tm.d, dT_map] at hT
    have S := (S.bare.fact (hT)).fact (S.td (.tail _ hf))
    repeat' walk1
    all_goals first | (exfalso; simp only [List.length_map, List.length_cons] at *; omega) | skip
    rename St _ _ _ _ _ _ _ _ _ _ _ => S
    refine hQn _ ?_
    exact Hold.mk ⟨_, _, _, _, _, rfl, ⟨rfl, .tail _ (.head _), z, _, hn, rfl, .head _⟩, S⟩
  · rintro m mu fs h tk ⟨rfl, hf, x, y, hx, hm, hy⟩ S
    rw [List.length_map, List.take_length, hu] at hx
    cases hx
    repeat' walk1
    exact k _ _ _ S.cx.keep (S.td hy)
end
theorem reset_5 : True := by w_top off; trivial
theorem with_g5 : True := by
  k_with "call ref" =>
    first
      | ((rename St .. => S0); (with_reducible refine c_form (St.gdh S0) (Rm.le (by k_dflt assumption) (by k_dflt omega)) (St.td S0 (by k_dflt k_mem)) (by k_dflt assumption) ?_); intro _ _ le9; have S9 := S0.ext le9; clear S0 le9; revert S9; intro _)
      | ((rename St .. => S0); (with_reducible refine c_parts_of (St.gdh S0) (Rm.le (by k_dflt assumption) (by k_dflt omega)) (St.td S0 (by k_dflt k_mem)) ?_); intro _ _ _ le9 T9; have S9 := (S0.ext le9).fact T9; clear S0 le9 T9; revert S9; intro _)
  trivial
section
variable {w : World} {mg mb : Str → Option Value} {h₀ h : Heap} {A : Around} {E : Value → Shared → Prop} {g : Array GenState} {dr : Drawn} {os : OsState} {tk : Nat}
set_option maxHeartbeats 40000000 in
theorem c_in_order {v : Value} {p : Pap} {Q : Value → Shared → Prop}
    (G : Gd (Mine.hd.heap_1 w.params) mg mb h) (R : Rm A 4) (T : TD h v p.d) (hp : p.ok) (hz : p.size < 1000)
    (k : ∀ l h' tk', Le h h' → h.get? l = none → (MO.ld ((post [] p).map qp)).Is PySem.Challenge.rw_rh0006_01.row.prog w h' l → Q (.ref l) ⟨h', g, dr, tk', os⟩) :
    wpAny (model PySem.Challenge.rw_rh0006_01.row.prog w) A (call (.ref 150) [v]) Q E ⟨h, g, dr, tk, os⟩ := by
  refine enterC [("paper", v)] (fun L => [("path", L + 1)]) (fun L => [(L + 1, .cellU)]) (fun y => if y = "paper" then some v else none) (cx0 G T) R (by k_is) (by k_is) rfl (by rfl) (by decide) (fun L => rfl) (fun L => rfl) (by rfl) ?_
  intro A' L h₁ tk₁ R₁ S
  dsimp only [List.cons_append, List.nil_append] at S
  repeat' walk1
  rename_i lf hA tA u1 hB tB u2 hC tC lw hD tD S
  refine r_newTupleR S ?_ (by simp [sizeLine])
  intro ta hE tE _ hT S
  refine r_unpackR S R₁ hT (by rfl) ?_
  intro hF _ S
  iterate 8 walk1
  rename St .. => S
  refine r_whileQ (fun n s => ∃ m h tk F W mc, n = zW W ∧ s = ⟨h, g, dr, tk, os⟩ ∧ m "found" = some (.ref lf) ∧ m "waiting" = some (.ref lw) ∧ W.flatMap (fun x => post x.1 x.2) ++ F.reverse = post [] p ∧ (∀ x ∈ W, x.2.ok ∧ x.1.length + x.2.size ≤ 1000) ∧ zW W < 1000 ∧ F.length < 1000 ∧
    (mc = .cellU ∨ (∃ v₀, mc = .cell v₀) ∨ ∃ d, mc = .cellD d) ∧ St PySem.Challenge.rw_rh0006_01.row.prog w (Mine.hd.heap_1 w.params) mg mb _ L m [(lw, .ld (W.map qp)), (lf, .ld (F.map qp)), (L + 1, mc)] [] h) (zW [([], p)])
    ⟨_, _, _, [], [([], p)], .cellU, rfl, rfl, rfl, rfl, by simp, by simpa using ⟨hp, by omega⟩, by simpa [zW] using hz, by simp, .inl rfl, S.bare⟩ ?_
  clear S
  rintro n s ⟨m, h, tk, F, W, mc, rfl, rfl, hm1, hm2, hW, hok, hz, hF, hmc, S⟩ Rn hRn
  rcases W.eq_nil_or_concat with rfl | ⟨W', ⟨q, o⟩, rfl⟩
  · repeat' walk1
    rename St .. => S
    refine k _ _ _ S.cx.keep (S.cx.mus _ (.tail _ (.head _))).2 ?_
    have e : (List.map qp F).reverse = (post [] p).map qp := by rw [← hW]; simp
    rw [e] at S
    exact S.mo (.tail _ (.head _))
  · obtain ⟨ho, hq⟩ : o.ok ∧ q.length + o.size ≤ 1000 := hok (q, o) (by simp)
    simp only [List.concat_eq_append, List.map_append, List.map_cons, List.map_nil] at S hz hok hW
    have hl : W'.length < 1000 := by have := len_zW W'; simp [zW_append] at hz; omega
    have hps : o.parts.length < 1000 := by have := o.size_parts; have := len_zP o.parts; omega
    have hkl : (kqN q 0 o.parts).length < 1000 := by rw [kqN_len]; exact hps
    have hq2 : q.length < 1000 := by have := o.size_pos; omega
    repeat' walk1
    all_goals first | (exfalso; simp only [List.length_append, List.length_cons, List.length_nil] at *; omega) | skip
    · exact Gd.inK (St.gdh (by assumption))
    rename St .. => S
    refine r_comp S (by rfl) (by rfl) (by rfl) (by rfl) ?_
    repeat' walk1
    · exact Gd.inK (St.gdh (by assumption))
    rename_i t hA tA e it hB tB S
    refine (self_enu (muF := [])).iter S ?_
    refine r_ch (fun i => .ld (((kqN q 0 o.parts).map qp).take i)) (fun _ => []) S (self_enu (muF := [])) (fun C => head_enumT (ds := o.parts.map Pap.d) R₁.hh rfl rfl rfl) (.inl rfl) ?_ ?_ ?_
    · intro h₁ C D O i m h hi S; exact S.td (by k_mem)
    · rintro h₁ C D O i hi b f m h tk ⟨t9, v, d, hd, rfl, rfl⟩ S
      dsimp only [mB, List.cons_append, List.nil_append] at S
      have hi' : i < o.parts.length := by simpa using hi
      repeat' walk1
      obtain ⟨p', hp', rfl⟩ : ∃ p', o.parts[i]? = some p' ∧ p'.d = d := by simpa using hd
      rw [take_next (l := (kqN q 0 o.parts).map qp) (x := .tuple [.tuple (q.map .int ++ [.int i]), p'.d]) (by rw [List.getElem?_map, kqN_get hp']; simp)]
      rename St .. => S
      exact Goes.of (S.facts (by intro p hp; repeat (first | exact hp | apply List.Mem.tail)))
    · intro D h₆ tk₆ S
      dsimp only [List.cons_append, List.nil_append] at S
      rw [List.take_of_length_le (by simp [kqN_len])] at S
      repeat' walk1
      rename St .. => S
      have S' := (S.sub (mu' := _ :: _ :: _ :: []) (fun p hp => .tail _ hp) (List.nodup_cons.mp S.cx.nd).2).bare
      rw [← List.map_append, show List.map qp F ++ [PyData.tuple [PyData.tuple (List.map PyData.int q), o.d]] = (F ++ [(q, o)]).map qp by simp] at S'
      refine hRn _ (zW (W' ++ kqN q 0 o.parts)) ?_ ⟨_, _, _, F ++ [(q, o)], W' ++ kqN q 0 o.parts, _, rfl, rfl, ?_, ?_, ?_, ?_, ?_, ?_, ?_, S'⟩
      · simp only [List.concat_eq_append, zW_append, zW, zW_kqN]; have := o.size_parts; omega
      · exact hm1
      · exact hm2
      · rw [← hW, List.flatMap_append, List.flatMap_append, kqN_post]
        simp [post_parts q o]
      · intro x hx
        rcases List.mem_append.mp hx with hx | hx
        · exact hok x (List.mem_append_left _ hx)
        · have h1 := kqN_mem hx
          have h2 : x.1.length = q.length + 1 := by
            simp only [kqN, List.mem_mapIdx] at hx
            obtain ⟨i, hi, rfl⟩ := hx
            simp
          have h3 := mem_zP h1
          have h4 := o.size_parts
          exact ⟨Pap.ok_parts ho _ h1, by omega⟩
      · simp only [zW_append, zW, zW_kqN] at hz ⊢; have := o.size_parts; omega
      · have : (post [] p).length = p.size := post_len _ _
        rw [← hW] at this
        simp [List.flatMap_append, post_len] at this
        have := o.size_pos
        simp
        omega
      · exact .inr (.inr ⟨_, rfl⟩)
end
theorem with_calls1 : True := by
  k_with "call ref" =>
    first
      | ((rename St .. => S0); (with_reducible refine c_form (St.gdh S0) (Rm.le (by k_dflt assumption) (by k_dflt omega)) (St.td S0 (by k_dflt k_mem)) (by k_dflt assumption) ?_); intro _ _ le9; have S9 := S0.ext le9; clear S0 le9; revert S9; intro _)
      | ((rename St .. => S0); (with_reducible refine c_parts_of (St.gdh S0) (Rm.le (by k_dflt assumption) (by k_dflt omega)) (St.td S0 (by k_dflt k_mem)) ?_); intro _ _ _ le9 T9; have S9 := (S0.ext le9).fact T9; clear S0 le9 T9; revert S9; intro _)
  k_with "And" =>
    (refine And.intro (Gd.inK (St.gdh (by k_dflt assumption))) ?_)
  k_with "call type:tuple" =>
    ((rename St .. => S0); (with_reducible refine r_tupL S0 (by k_dflt (first | exact St.mo S0 (by k_dflt k_mem) | exact MO.Is.le (by k_dflt assumption) S0.cx.keep)) ?_ (by k_dflt ktr_units)); clear S0; intro _ _ _ le9 _; clear le9)
  k_with "go" =>
    repeat' (first
      | ((with_reducible show wpAny _ _ (eval (Expr.ListComp _ _ _ _) _) _ _ _); (rename St .. => S0); (refine r_comp S0 (by k_dflt rfl) (by k_dflt rfl) (by k_dflt rfl) (by k_dflt rfl) ?_))
      | walk1)
  k_with "old" =>
    (intro p hp; repeat (first | exact hp | apply List.Mem.tail))
  trivial
theorem reset_6 : True := by w_top off; trivial
section
variable {w : World} {mg mb : Str → Option Value} {h₀ h : Heap} {A : Around} {E : Value → Shared → Prop} {g : Array GenState} {dr : Drawn} {os : OsState} {tk : Nat}
theorem c_want {v v' : Value} {p : Pap} {Q : Value → Shared → Prop}
    (G : Gd (Mine.hd.heap_1 w.params) mg mb h) (R : Rm A 3) (T : TD h v p.d) (hp : p.ok)
    (k : ∀ h' tk', Le h h' → Q .none ⟨h', g, dr, tk', os⟩) :
    wpAny (model PySem.Challenge.rw_rh0006_01.row.prog w) A (call (.ref 157) [v, v']) Q E ⟨h, g, dr, tk, os⟩ := by
  refine enter [("paper", v), ("path", v')] (cx0 G T) R (by k_is) (by k_is) rfl rfl (by rfl) ?_
  intro A' L h₁ tk₁ R₁ S
  repeat' walk1
  rename St _ _ _ _ _ _ _ _ _ _ _ => S
  exact k _ _ S.cx.keep

theorem c_under {o : Str} {t : Tok} {l : Addr} {ps : List Pap} {Q : Value → Shared → Prop}
    (G : Gd (Mine.hd.heap_1 w.params) mg mb h) (R : Rm A 3) (T : (MO.ld (ps.map Pap.d)).Is PySem.Challenge.rw_rh0006_01.row.prog w h l) (hp : ps.length < 1000) (hlay : ∀ p ∈ ps, lay 60 p.d) (ho : o ∈ gOps)
    (k : ∀ r h' tk', Le h h' → TD h' r (un o ps).d → Q r ⟨h', g, dr, tk', os⟩) :
    wpAny (model PySem.Challenge.rw_rh0006_01.row.prog w) A (call (.ref 162) [.str o t, .ref l]) Q E ⟨h, g, dr, tk, os⟩ := by
  refine enter [("op", .str o t), ("papers", .ref l)] (cx00 G) R (by k_is) (by k_is) rfl rfl (by rfl) ?_
  intro A' L h₁ tk₁ R₁ S
  iterate 3 walk1
  refine r_comp S (by rfl) (by rfl) (by rfl) (by rfl) ?_
  walk1
  refine r_iterLd S (T.le S.cx.keep) ?_
  intro I h₂ tk₂ _ S
  refine r_chIf (fun i => .ld (((ps.take i).filter (fun p => !p.isSame)).map Pap.d)) (fun _ => []) S (self_list (muF := [])) (fun C => head_list (ds := ps.map Pap.d) R₁.hh rfl rfl) (.inl rfl) ?_ ?_ ?_
  · intro h₁ C D O i m h hi S; exact T.le (O.le.trans S.cx.keep)
  · rintro h₁ C D O i hi b f m h tk ⟨v, d, hd, rfl, rfl⟩ S
    dsimp only [mB, List.cons_append, List.nil_append] at S
    have hi' : i < ps.length := by simpa using hi
    obtain ⟨p, hp', rfl⟩ : ∃ p', ps[i]? = some p' ∧ p'.d = d := by simpa using hd
    obtain ⟨x, r, hx, hs⟩ := p.kind_d
    obtain ⟨a, rfl⟩ := PapRef (S.td (.head _))
    have S := S.fact (hx ▸ S.td (.head _))
    rw [take_next hp']
    repeat' walk1
    · rename (x != Str.ofString "same") = true => hn
      have hf : List.filter (fun p => !p.isSame) (List.take i ps ++ [p]) = List.filter (fun p => !p.isSame) (List.take i ps) ++ [p] := by
        rw [List.filter_append]; simp [← hs]; simpa [bne] using hn
      rw [hf, List.map_append]
      refine r_appendD S (.tail .head) (S.td (.tail _ (.head _))) ?_ (by have := List.length_filter_le (fun p : Pap => !p.isSame) (List.take i ps); simp [sizeLine] at this ⊢; omega)
      intro h' tk' S
      exact Goes.of (S.facts (by intro p hp; exact nomatch hp))
    · rename (x != Str.ofString "same") = false => hn
      have hf : List.filter (fun p => !p.isSame) (List.take i ps ++ [p]) = List.filter (fun p => !p.isSame) (List.take i ps) := by
        rw [List.filter_append]; simp [← hs]; simpa [bne] using hn
      rw [hf]
      exact Goes.of (S.facts (by intro p hp; exact nomatch hp))
  · intro D h₆ tk₆ S
    dsimp only [List.cons_append, List.nil_append] at S
    rw [List.length_map, List.take_length] at S
    cases hf : List.filter (fun p => !p.isSame) ps with
    | nil =>
      have hall := filter_same.mp hf
      rw [hf, List.map_nil] at S
      repeat' walk1
      rename St _ _ _ _ _ _ _ _ _ _ _ => S
      refine r_eqL R₁ (S.mo (.tail _ (.head _))) (S.mo (.head _)) (by decide) (by decide) ?_
      rw [show PyData.eqv (PyData.list []) (PyData.list []) = true from rfl]
      walk_at "go"
      rename St _ _ _ _ _ _ _ _ _ _ _ => S
      refine r_iterLd S (T.le S.cx.keep) ?_
      intro I h₂ tk₂ _ S
      refine r_ch (fun i => .ld (((ps.map Pap.tm).map Tm.d).take i)) (fun _ => []) S (self_list (muF := [])) (fun C => head_list (ds := ps.map Pap.d) R₁.hh rfl rfl) (.inl rfl) ?_ ?_ ?_
      · intro h₁ C D O i m h hi S; exact T.le (O.le.trans S.cx.keep)
      · rintro h₁ C D O i hi b f m h tk ⟨v, d, hd, rfl, rfl⟩ S
        dsimp only [mB, List.cons_append, List.nil_append] at S
        have hi' : i < ps.length := by simpa using hi
        obtain ⟨p, hp', rfl⟩ : ∃ p', ps[i]? = some p' ∧ p'.d = d := by simpa using hd
        obtain ⟨a, rfl⟩ := PapRef (S.td (.head _))
        have S := S.fact (Pap.same_d (List.all_eq_true.mp hall p (List.mem_of_getElem? hp')) ▸ S.td (.head _))
        rw [take_next (x := p.tm.d) (by simp [hp'])]
        repeat' walk1
        rename St _ _ _ _ _ _ _ _ _ _ _ => S
        exact Goes.of (S.facts (by walk_at "old"))
      · intro D h₆ tk₆ S
        dsimp only [List.cons_append, List.nil_append] at S
        rw [List.take_of_length_le (by simp)] at S
        repeat' walk1
        rename St _ _ _ _ _ _ _ _ _ _ _ => S
        refine k _ _ _ S.cx.keep ?_
        rw [show (un o ps).d = .tuple [.str "same", .tuple ([.str o] ++ (ps.map Pap.tm).map Tm.d)] by simp [un, hall, Pap.d, Tm.d, dT_map]]
        exact S.td (by k_mem)
    | cons q qs =>
      have hall : ¬ ps.all Pap.isSame = true := fun q => by rw [filter_same.mpr q] at hf; cases hf
      rw [hf, List.map_cons] at S
      repeat' walk1
      rename St _ _ _ _ _ _ _ _ _ _ _ => S
      have hsub : ∀ x ∈ q :: qs, x ∈ ps := fun x hx => by rw [← hf] at hx; exact (List.mem_filter.mp hx).1
      refine r_eqL R₁ (S.mo (.tail _ (.head _))) (S.mo (.head _)) ((lay_list (n := 60) fun d hd => ?_).shaped (by decide)) (by decide) ?_
      · rw [← List.map_cons] at hd
        obtain ⟨x, hx, rfl⟩ := List.mem_map.mp hd
        exact hlay x (hsub x hx)
      · rw [show PyData.eqv (PyData.list (q.d :: List.map Pap.d qs)) (PyData.list []) = false from rfl]
        repeat' walk1
        rename St _ _ _ _ _ _ _ _ _ _ _ => S
        refine k _ _ _ S.cx.keep ?_
        rw [show (un o ps).d = .tuple [.str "under", .str o, .tuple (ps.map Pap.d)] by simp [un, hall, Pap.d, dP_map]]
        exact S.td (by k_mem)
end
theorem reset_7 : True := by w_top off; trivial
section
variable {w : World} {mg mb : Str → Option Value} {h₀ h : Heap} {A : Around} {E : Value → Shared → Prop} {g : Array GenState} {dr : Drawn} {os : OsState} {tk : Nat}
theorem c_within {vt vq : Value} {b : Addr} {t u : Tm} {p : Path} {q : Pap} {n B : Nat} {Q : Value → Shared → Prop}
    (G : Gd (Mine.hd.heap_1 w.params) mg mb h) (R : Rm A 6) (T : TD h vt t.d) (TP : TD h (.ref b) (pt p)) (TQ : TD h vq q.d) (hu : t.at p = some u) (ht : t.fit n) (hz : t.size < 1000) (hp : p.length < 1000)
    (hB : n + 1 ≤ B) (hB2 : B + 2 * p.length ≤ 60) (hq : lay B q.d)
    (k : ∀ r h' tk', Le h h' → TD h' r (wi t p q).d → Q r ⟨h', g, dr, tk', os⟩) :
    wpAny (model PySem.Challenge.rw_rh0006_01.row.prog w) A (call (.ref 236) [vt, .ref b, vq]) Q E ⟨h, g, dr, tk, os⟩ := by
  refine enterC [("term", vt), ("path", .ref b), ("paper", vq)] (fun L => [("spot", L+1+1+1), ("paper", L+1+1), ("path", L+1)]) (fun L => [(L+1+1+1, .cellU), (L+1+1, .cell vq), (L+1, .cell (.ref b))]) (fun y => if y = "term" then some vt else none)
    (((cx0 G T).fact TP).fact TQ) R (by k_is) (by k_is) rfl (by rfl) (by decide) (fun L => rfl) (fun L => rfl) (by rfl) ?_
  intro A' L h₁ tk₁ R₁ S
  dsimp only [List.cons_append, List.nil_append] at S
  have S := S.asD (mu' := [(L+1+1+1, .cellU), (L+1+1, .cellD q.d), (L+1, .cell (.ref b))]) (.tail .head) (S.td (.head _))
  walk1
  refine wpAny_For ?_
  walk_at "go"
  rename_i r hA tA S
  refine r_iterRng S (small_of (by simp; omega) (by decide) (.inr rfl)) (N := p.length) (by rw [List.length_map]; exact rsize_down) ?_
  clear S
  intro I h₂ tk₂ S
  refine r_fl (head_rngC (ce := L+1+1+1) R₁.hh (by rfl) (by rfl) (by rfl)) (fun i m mu fs => fs = [(.ref b, pt p), (vt, t.d)] ∧ m "term" = some vt ∧ ∃ w q', t.at (p.take (p.length - i)) = some w ∧ q' = wi w (p.drop (p.length - i)) q ∧ lay (B + 2 * i) q'.d ∧ mu = [(L+1+1, .cellD q'.d), (L+1, .cell (.ref b))])
    ?_ ⟨rfl, rfl, u, q, by simpa using hu, by simp [wi], hq, rfl⟩ (S.facts (by walk_at "old")) ?_ ?_
  · intros; trivial
  · rintro i hi bb f m mu fs h tk ⟨rfl, rfl⟩ ⟨rfl, hm, wt, q', hw, hq', hl, rfl⟩ S
    refine gen_F fun Qn hQn => ?_
    obtain ⟨kk, w', x, hk', h0, hx', hz', hn⟩ := Tm.at_step hu (i := p.length - 1 - i) (by omega)
    have hn' : t.at (p.take (p.length - (i + 1))) = some w' := by rw [show p.length - (i + 1) = p.length - 1 - i by omega]; exact hx'
    rw [show p.length - 1 - i + 1 = p.length - i by omega, hw] at hn
    cases hn
    dsimp only [mB, List.cons_append, List.nil_append, cellRng] at S
    have hN : (List.map PyData.int p).length = p.length := List.length_map _
    have hsn : ((↑(List.map PyData.int p).length : Int) - 1 + -1 * (i : Int)).toNat = p.length - 1 - i := by rw [hN]; omega
    have hs0 : 0 ≤ (↑(List.map PyData.int p).length : Int) - 1 + -1 * (i : Int) := by rw [hN]; omega
    have hs1 : (↑(List.map PyData.int p).length : Int) - 1 + -1 * (i : Int) ≤ (List.map PyData.int p).length := by rw [hN]; omega
    have hs2 : (List.map PyData.int p)[((↑(List.map PyData.int p).length : Int) - 1 + -1 * (i : Int)).toNat]? = some (.int kk) := by rw [hsn, List.getElem?_map, hk']; rfl
    walk_at "go"
    rename St _ _ _ _ _ _ _ _ _ _ _ => S
    have TPs := S.td (.head _)
    rw [← List.map_take, hsn] at TPs
    refine c_part_at (St.gdh S) (Rm.le R₁ (by decide)) (t := t) (S.td (by k_mem)) TPs hz hx' ?_
    intro rh h₃ tk₃ l₃ Tr
    obtain ⟨ah, rfl⟩ := TmRef Tr
    have S := (S.ext l₃).fact (Tm.d_eq w' ▸ Tr)
    have hkl : w'.kids.length < 1000 := by have := len_zT w'.kids; have := w'.size_kids; have := Tm.at_size hx'; omega
    iterate 2 walk1
    rename St _ _ _ _ _ _ _ _ _ _ _ => S
    refine r_compA S (by rfl) (by rfl) (by rfl) (by rfl) (by rfl) ?_
    walk_at "go"
    rename_i t9 h9 t9' e it hB9 tB9 S
    refine (self_enu (muF := [])).iter S ?_
    have hps : ∀ (j : Nat) (kid : Tm), w'.kids[j]? = some kid → (w'.kids.mapIdx fun j kid => if (j : Int) = kk then q' else .same kid)[j]? = some (if (j : Int) = kk then q' else .same kid) := fun j kid hj => by rw [List.getElem?_mapIdx, hj]; rfl
    have hpl : (w'.kids.mapIdx fun j kid => if (j : Int) = kk then q' else .same kid).length = w'.kids.length := by simp
    have hst : wi w' (p.drop (p.length - (i + 1))) q = un w'.op (w'.kids.mapIdx fun j kid => if (j : Int) = kk then q' else .same kid) := by
      rw [show p.length - (i + 1) = p.length - 1 - i by omega, wi_step hk' hz', show p.length - 1 - i + 1 = p.length - i by omega, ← hq']; rfl
    have hlays : ∀ x ∈ (w'.kids.mapIdx fun j kid => if (j : Int) = kk then q' else .same kid), lay (B + 2 * i) x.d := fun x hx => by
      obtain ⟨j, hj, rfl⟩ := List.mem_mapIdx.mp hx
      split
      · exact hl
      · have hf := (ht.at hx').le (Nat.le_refl n)
        cases n with
        | zero => exact hf.elim
        | succ n => exact (lay_tup (n := n + 1) (fun d hd => by
            rcases List.mem_cons.mp hd with rfl | hd
            · exact lay_str _ (by simp only [PyData.canLay0]; decide +kernel)
            · rw [List.mem_singleton.mp hd]; exact (hf.2 (w'.kids[j]) (List.getElem_mem hj)).lay.le (by omega))).le (by omega)
    have hop : w'.op ∈ gOps := by
      have hf := ht.at hx'
      cases n with
      | zero => exact hf.elim
      | succ n => exact hf.1
    generalize hpsd : (w'.kids.mapIdx fun j kid => if (j : Int) = kk then q' else .same kid) = ps at hps hpl hst hlays
    refine r_ch (fun i => .ld ((ps.map Pap.d).take i)) (fun _ => []) S (self_enu (muF := [])) (fun C => head_enumT (ds := w'.kids.map Tm.d) R₁.hh rfl rfl rfl) (.inl rfl) ?_ ?_ ?_
    · intro h₁ C D O i m h hi S; exact S.td (by k_mem)
    · rintro h₁ C D O j hj b f m h tk ⟨t9, v, d, hd, rfl, rfl⟩ S
      dsimp only [mB, List.cons_append, List.nil_append] at S
      have hj' : j < w'.kids.length := by simpa using hj
      obtain ⟨kid, hkid, rfl⟩ : ∃ p', w'.kids[j]? = some p' ∧ p'.d = d := by simpa using hd
      rw [take_next (x := (if (j : Int) = kk then q' else .same kid).d) (by rw [List.getElem?_map, hps j kid hkid]; rfl)]
      by_cases hjk : (j : Int) = kk
      · rw [if_pos hjk]
        walk_at "go"
        rename St _ _ _ _ _ _ _ _ _ _ _ => S
        obtain ⟨tz, rfl⟩ := (S.td (.head _)).int_inv
        walk_at "go"
        all_goals first | (exfalso; omega) | skip
        rename St _ _ _ _ _ _ _ _ _ _ _ => S
        exact Goes.of (S.facts (by walk_at "old"))
      · rw [if_neg hjk, show (Pap.same kid).d = .tuple [.str "same", kid.d] by simp only [Pap.d]]
        walk_at "go"
        rename St _ _ _ _ _ _ _ _ _ _ _ => S
        obtain ⟨tz, rfl⟩ := (S.td (.head _)).int_inv
        walk_at "go"
        all_goals first | (exfalso; omega) | skip
        rename St _ _ _ _ _ _ _ _ _ _ _ => S
        exact Goes.of (S.facts (by walk_at "old"))
    · intro D h₆ tk₆ S
      dsimp only [List.cons_append, List.nil_append] at S
      rw [List.take_of_length_le (by simp [hpl])] at S
      walk_at "go"
      rename St _ _ _ _ _ _ _ _ _ _ _ => S
      refine c_under (St.gdh S) (Rm.le R₁ (by decide)) (S.mo (by k_mem)) (by omega) (fun x hx => (hlays x hx).le (by omega)) hop ?_
      intro ru h₇ tk₇ l₇ Tu
      have S := (S.ext l₇).fact Tu
      walk_at "go"
      rename St _ _ _ _ _ _ _ _ _ _ _ => S
      have S' := (S.sub (mu' := [(I, _), (L+1+1+1, _), (L+1+1, _), (L+1, _)]) (fun x hx => .tail _ hx) (List.nodup_cons.mp S.cx.nd).2).facts (fs' := [(.ref b, pt p), (vt, t.d)]) (by intro x hx; rcases List.mem_cons.mp hx with rfl | hx; (k_mem); rw [List.mem_singleton.mp hx]; k_mem)
      refine hQn _ ?_
      refine Hold.mk ⟨_, _, _, _, _, rfl, ⟨rfl, ?_, w', _, hn', hst.symm, (un_lay hlays hop).le (by omega), rfl⟩, S'⟩
      exact hm
  · rintro m mu fs h tk ⟨rfl, hm, wt, q', hw, hq', hl, rfl⟩ S
    walk_at "go"
    rename St _ _ _ _ _ _ _ _ _ _ _ => S
    rw [Nat.sub_self, List.take_zero] at hw
    simp only [Tm.at, Option.some.injEq] at hw
    subst hw
    rw [Nat.sub_self, List.drop_zero] at hq'
    subst hq'
    exact k _ _ _ S.cx.keep (S.td (by k_mem))
end
theorem reset_8 : True := by w_top off; trivial
section
variable {w : World} {mg mb : Str → Option Value} {h₀ h : Heap} {A : Around} {E : Value → Shared → Prop} {g : Array GenState} {dr : Drawn} {os : OsState} {tk : Nat}
theorem c_done {l : Tm} : ∀ {p : Path} {t u : Tm} {vt vl : Value} {b : Addr} {h : Heap} {A : Around} {tk : Nat} {E : Value → Shared → Prop} {Q : Value → Shared → Prop}
    (G : Gd (Mine.hd.heap_1 w.params) mg mb h) (R : Rm A (p.length + 2)) (T : TD h vt t.d) (TP : TD h (.ref b) (pt p)) (TL : TD h vl l.d) (hu : t.at p = some u) (hz : t.size < 1000) (hp : p.length < 1000)
    (k : ∀ r h' tk', Le h h' → TD h' r (dn t p l).d → Q r ⟨h', g, dr, tk', os⟩),
    wpAny (model PySem.Challenge.rw_rh0006_01.row.prog w) A (call (.ref 314) [vt, .ref b, vl]) Q E ⟨h, g, dr, tk, os⟩
  | [], t, u, vt, vl, b, h, A, tk, E, Q, G, R, T, TP, TL, hu, hz, hp, k => by
    refine enter [("term", vt), ("path", .ref b), ("late", vl)] (((cx0 G T).fact TP).fact TL) R (by k_is) (by k_is) rfl rfl (by rfl) ?_
    intro A' L h₁ tk₁ R₁ S
    walk_at "go"
    rename St _ _ _ _ _ _ _ _ _ _ _ => S
    refine r_eqD R₁ (d := .tuple []) (e := .tuple []) (S.td (by k_mem)) (S.td (by k_mem)) (by decide) (by decide) ?_
    rw [show PyData.eqv (PyData.tuple []) (PyData.tuple []) = true from rfl]
    walk_at "go"
    exact k _ _ _ S.cx.keep (S.td (by k_mem))
  | kk :: r, t, u, vt, vl, b, h, A, tk, E, Q, G, R, T, TP, TL, hu, hz, hp, k => by
    obtain ⟨k', w', x, hk', h0, hw', hx, hn⟩ := Tm.at_step hu (i := 0) (by simp)
    simp only [List.getElem?_cons_zero, Option.some.injEq] at hk'
    subst hk'
    simp only [List.take_zero, Tm.at, Option.some.injEq] at hw'
    subst hw'
    have hur : x.at r = some u := by simp only [Tm.at, h0, if_true, hx] at hu; exact hu
    obtain ⟨op, ks⟩ := t
    simp only [Tm.kids] at hx
    have hkl : kk.toNat < ks.length := (List.getElem?_eq_some_iff.mp hx).1
    have hks : ks.length < 1000 := by have := len_zT ks; simp [Tm.size] at hz; omega
    have hr : r.length < 1000 := by simp at hp; omega
    obtain ⟨a, rfl⟩ := TmRef T
    rw [Tm.d_eq] at T
    simp only [Tm.op, Tm.kids] at T
    have TP2 : TD h (.ref b) (.tuple (.int kk :: r.map .int)) := TP
    refine enter [("term", .ref a), ("path", .ref b), ("late", vl)] (((cx0 G T).fact TP2).fact TL) R (by k_is) (by k_is) rfl rfl (by rfl) ?_
    intro A' L h₁ tk₁ R₁ S
    walk_at "go"
    rename St _ _ _ _ _ _ _ _ _ _ _ => S
    have hE1 : (PyData.str op :: List.map Tm.d ks)[(kk + 1).toNat]? = some x.d := by rw [show (kk + 1).toNat = kk.toNat + 1 by omega, List.getElem?_cons_succ, List.getElem?_map, hx]; rfl
    refine r_eqD R₁ (d := pt (kk :: r)) (e := .tuple []) (S.td (by k_mem)) (S.td (by k_mem)) ((lay_pt 1 _).shaped (by decide)) (by decide) ?_
    rw [show PyData.eqv (pt (kk :: r)) (PyData.tuple []) = false from rfl]
    have hb1 : kk + 1 ≤ ((PyData.str op :: List.map Tm.d ks).length : Int) := by simp; omega
    have hb2 : kk + 2 ≤ ((PyData.str op :: List.map Tm.d ks).length : Int) := by simp; omega
    have hb3 : 0 ≤ kk + 1 := by omega
    have hb4 : 0 ≤ kk + 2 := by omega
    walk_at "go"
    rename St _ _ _ _ _ _ _ _ _ _ _ => S
    refine c_done (l := l) (p := r) (t := x) (St.gdh S) (Rm.le R₁ (by simp)) (S.td (by k_mem)) (S.td (by k_mem)) (S.td (by k_mem)) hur (by have := mem_zT (List.mem_of_getElem? hx); simp [Tm.size] at hz; omega) hr ?_
    intro rv h₃ tk₃ l₃ Tr
    have S := (S.ext l₃).fact Tr
    walk_at "go"
    rename St _ _ _ _ _ _ _ _ _ _ _ => S
    refine k _ _ _ S.cx.keep ?_
    have hdn : (dn (.mk op ks) (kk :: r) l).d = .tuple ((PyData.str op :: List.map Tm.d ks).take (kk + 1).toNat ++ [(dn x r l).d] ++ (PyData.str op :: List.map Tm.d ks).drop (kk + 2).toNat) := by
      simp only [dn, Tm.kids, hx, Tm.op, Tm.d, dT_map]
      rw [show (kk + 2).toNat = (kk + 1).toNat + 1 by omega, cut_set (by simp; omega), show (kk + 1).toNat = kk.toNat + 1 by omega, List.set_cons_succ, List.map_set]
    rw [hdn]
    exact S.td (by k_mem)
end
theorem reset_9 : True := by w_top off; trivial
section
variable {w : World} {mg mb : Str → Option Value} {h₀ h : Heap} {L : Addr} {m : Str → Option Value} {mu mu' : List (Addr × MO)} {fs : List (Value × PyData)} {A : Around} {E : Value → Shared → Prop} {g : Array GenState} {dr : Drawn} {os : OsState} {tk : Nat}
set_option maxHeartbeats 40000000 in
theorem c_pick {fd rl : Addr} {b many : Int} {t : Tok} {row : List Int} {Q : Value → Shared → Prop}
    (S : St PySem.Challenge.rw_rh0006_01.row.prog w (Mine.hd.heap_1 w.params) mg mb h₀ L m mu fs h) (u : Up fd (.feed rl b) (.feed rl (b + 1)) mu mu') (hr : (MO.ld (row.map .int)).Is PySem.Challenge.rw_rh0006_01.row.prog w h rl) (hne : rl ≠ fd) (R : Rm A 2) (hm : 0 < many) (hb : b < 1000) (hrow : row.length < 1000)
    (k : ∀ x t h' tk', 0 ≤ x → x < many → St PySem.Challenge.rw_rh0006_01.row.prog w (Mine.hd.heap_1 w.params) mg mb h₀ L m mu' fs h' → Q (.int x t) ⟨h', g, dr, tk', os⟩) :
    wpAny (model PySem.Challenge.rw_rh0006_01.row.prog w) A (call (.ref 297) [.ref fd, .int many t]) Q E ⟨h, g, dr, tk, os⟩ := by
  obtain ⟨n, tn, hn0, hnb, C⟩ := S.feedCx u.mem
  have hr' : (MO.ld (row.map .int)).Is PySem.Challenge.rw_rh0006_01.row.prog w (hideAll h [fd]) rl := by
    obtain ⟨vs, n, e, r⟩ := hr
    refine ⟨vs, n, hideAll_get _ e (by simpa using hne), r.mono fun a o us j q hc hd => hideAll_get _ q fun q' => ?_⟩
    rw [List.mem_singleton.mp q'] at q
    exact (C.mus _ (.head _)).1.notTup q hc hd
  refine enter [("feed", .ref fd), ("many", .int many t)] C R (by k_is) (by k_is) rfl rfl (by rfl) ?_
  intro A' L' h₁ tk₁ R₁ S₁
  obtain ⟨z, hz⟩ : ∃ z, n < row.length → (row.map PyData.int)[n.toNat]? = some (.int z) := by
    by_cases h : n < row.length
    · exact ⟨row[n.toNat]'(by omega), fun _ => by rw [List.getElem?_map, List.getElem?_eq_getElem (by omega)]; rfl⟩
    · exact ⟨0, fun q => absurd q h⟩
  by_cases hlt : n < row.length
  · have hz := hz hlt
    walk_at "go"
    all_goals first | (exfalso; simp only [List.length_map] at *; omega) | skip
    rename St _ _ _ _ _ _ _ _ _ _ _ => S₂
    exact k _ _ _ _ (Int.fmod_nonneg_of_pos _ hm) (Int.fmod_lt_of_pos _ hm) (S.fed u S₂ (by omega) (by omega))
  · walk_at "go"
    all_goals first | (exfalso; simp only [List.length_map] at *; omega) | skip
    rename St _ _ _ _ _ _ _ _ _ _ _ => S₂
    exact k _ _ _ _ (Int.fmod_nonneg_of_pos _ hm) (Int.fmod_lt_of_pos _ hm) (S.fed u S₂ (by omega) (by omega))
end
theorem reset_10 : True := by w_top off; trivial
section
variable {w : World} {mg mb : Str → Option Value} {h₀ h : Heap} {A : Around} {E : Value → Shared → Prop} {g : Array GenState} {dr : Drawn} {os : OsState} {tk : Nat}
noncomputable abbrev qt (x : Path × Tm) : PyData := .tuple [pt x.1, x.2.d]
theorem c_lparts : ∀ (n : Nat) {v : Value} {t : Tm} {h : Heap} {A : Around} {tk : Nat} {E : Value → Shared → Prop} {Q : Value → Shared → Prop}
    (G : Gd (Mine.hd.heap_1 w.params) mg mb h) (R : Rm A (n + 4)) (T : TD h v t.d) (hf : t.fit n) (hz : t.size < 1000)
    (k : ∀ l h' tk', Le h h' → h.get? l = none → (MO.ld ((pcs t).map qt)).Is PySem.Challenge.rw_rh0006_01.row.prog w h' l → Q (.ref l) ⟨h', g, dr, tk', os⟩),
    wpAny (model PySem.Challenge.rw_rh0006_01.row.prog w) A (call (.ref 307) [v]) Q E ⟨h, g, dr, tk, os⟩
  | 0, v, t, h, A, tk, E, Q, G, R, T, hf, hz, k => hf.elim
  | n + 1, v, ⟨op, ks⟩, h, A, tk, E, Q, G, R, T, hf, hz, k => by
    obtain ⟨a, rfl⟩ := TmRef T
    have hks : ks.length < 1000 := by have := len_zT ks; simp [Tm.size] at hz; omega
    have T2 := T
    simp only [Tm.d, dT_map] at T2
    refine enterC [("term", .ref a)] (fun L => [("k", L + 1)]) (fun L => [(L + 1, .cellU)]) (fun y => if y = "term" then some (.ref a) else none) ((cx0 G T).fact T2) R (by k_is) (by k_is) rfl (by rfl) (by decide) (fun L => rfl) (fun L => rfl) (by rfl) ?_
    intro A' L h₁ tk₁ R₁ S
    dsimp only [List.cons_append, List.nil_append] at S
    walk_at "go"
    refine wpAny_For ?_
    walk_at "go"
    rename_i a3 hA tA a2 hB tB lf hC tC hD tD tp hE tE e it hF tF S
    refine (self_enu (muF := [])).iter S ?_
    have hq : List.map qt (([], Tm.mk op ks) :: pcsL 0 (ks.take 0)) = [.tuple [.tuple [], .tuple (.str op :: ks.map Tm.d)]] := by simp [pcsL, Tm.d, dT_map]
    have S := (S.sub (mu' := enuCMo e it tp (L+1) 0 ++ [(lf, .ld (List.map qt (([], Tm.mk op ks) :: pcsL 0 (ks.take 0))))]) (by rw [hq]; intro p hp; simp only [List.cons_append, List.nil_append, List.mem_cons, List.not_mem_nil, or_false] at hp ⊢; rcases hp with h | h | h | h <;> simp [h, cellRng]) (by exact nd4 S.cx.nd)).facts (fs' := [(.ref tp, .tuple (ks.map Tm.d))]) (by intro p hp; rw [List.mem_singleton.mp hp]; exact .head _)
    refine r_fl (head_enumTC (ce := L+1) (ds := ks.map Tm.d) R₁.hh (by rfl) (by rfl) (by rfl) (by rfl)) (fun i m mu fs => fs = [(.ref tp, .tuple (ks.map Tm.d))] ∧ m "found" = some (.ref lf) ∧ mu = [(lf, .ld (List.map qt (([], Tm.mk op ks) :: pcsL 0 (ks.take i))))]) ?_ ⟨rfl, rfl, rfl⟩ S ?_ ?_
    · rintro i m mu fs h hi ⟨rfl, _, rfl⟩ S; exact S.td (by k_mem)
    · rintro i hi bb f m mu fs h tk ⟨v, d, hd, rfl, rfl⟩ ⟨rfl, hm, rfl⟩ S
      refine gen_F fun Qn hQn => ?_
      dsimp only [mB, List.cons_append, List.nil_append, cellRng] at S
      obtain ⟨kid, hkid, rfl⟩ : ∃ p', ks[i]? = some p' ∧ p'.d = d := by simpa using hd
      have hkz : kid.size < 1000 := by have := mem_zT (List.mem_of_getElem? hkid); have : (Tm.mk op ks).size = 1 + zT ks := Tm.size_kids _; omega
      generalize hX : List.map qt (([], Tm.mk op ks) :: pcsL 0 (ks.take i)) = X at S
      have hXl : X.length < 2000 := by
        have h1 := zT_append (ks.take i) (ks.drop i)
        rw [List.take_append_drop] at h1
        have : (Tm.mk op ks).size = 1 + zT ks := Tm.size_kids _
        rw [← hX, List.length_map, List.length_cons, pcsL_len]; omega
      walk_at "go"
      rename St _ _ _ _ _ _ _ _ _ _ _ => S
      refine c_lparts n (St.gdh S) (Rm.le R₁ (by omega)) (S.td (by k_mem)) (hf.2 kid (List.mem_of_getElem? hkid)) hkz ?_
      intro l h₂ tk₂ l₂ hn hl
      have S := S.adopt l₂ hl hn
      refine r_iterLd S (S.mo (.head _)) ?_
      intro I h₃ tk₃ _ S
      refine r_ch (fun j => .ld ((((pcs kid).map fun x => ((i : Int) :: x.1, x.2)).map qt).take j)) (fun _ => []) S (self_list (muF := [])) (fun C => head_pairs (ds := (pcs kid).map qt) R₁.hh rfl rfl rfl (fun d hd => by obtain ⟨x, _, rfl⟩ := List.mem_map.mp hd; exact ⟨_, _, rfl⟩)) (.inl rfl) ?_ ?_ ?_
      · intro h₁ C D O j m h hj S; exact O.at S (.head _)
      · rintro h₁ C D O j hj b f m h tk ⟨v1, v2, d1, d2, hd, rfl, rfl⟩ S
        dsimp only [mB, List.cons_append, List.nil_append] at S
        obtain ⟨x, hx, hxe⟩ : ∃ x, (pcs kid)[j]? = some x ∧ qt x = .tuple [d1, d2] := by rw [List.getElem?_map] at hd; simpa using hd
        obtain ⟨rfl, rfl⟩ : pt x.1 = d1 ∧ x.2.d = d2 := by simpa [qt] using hxe
        rw [take_next (l := List.map qt _) (x := .tuple [.tuple ([.int (0 + 1 * (i : Int))] ++ x.1.map .int), x.2.d]) (by rw [List.getElem?_map, List.getElem?_map, hx]; simp [qt])]
        have hxl : x.1.length < 1000 := Nat.lt_trans (pcs_short _ (Nat.le_refl _) (List.mem_of_getElem? hx)) hkz
        obtain ⟨bp, _, _, rfl, _⟩ := (S.td (.head _)).tup_inv
        have hj' : j < 1000 := by rw [List.length_map, pcs_len] at hj; omega
        walk_at "go"
        rename St _ _ _ _ _ _ _ _ _ _ _ => S
        exact Goes.of (S.facts (by walk_at "old"))
      · intro D h₆ tk₆ S
        dsimp only [List.cons_append, List.nil_append] at S
        rw [List.take_of_length_le (by simp)] at S
        have hY : (List.map qt ((pcs kid).map fun x => ((i : Int) :: x.1, x.2))).length < 2000 := by rw [List.length_map, List.length_map, pcs_len]; omega
        walk_at "go"
        rename St _ _ _ _ _ _ _ _ _ _ _ => S
        have hnext : X ++ List.map qt ((pcs kid).map fun x => ((i : Int) :: x.1, x.2)) = List.map qt (([], Tm.mk op ks) :: pcsL 0 (ks.take (i + 1))) := by rw [← hX, pcsL_next hkid]; simp
        rw [hnext] at S
        refine hQn _ ?_
        refine Hold.mk ⟨_, _, _, _, _, rfl, ⟨rfl, ?_, rfl⟩, S.drop1.drop1.facts (by intro p hp; rw [List.mem_singleton.mp hp]; k_mem)⟩
        exact hm
    · rintro m mu fs h tk ⟨rfl, hm, rfl⟩ S
      walk_at "go"
      rename St _ _ _ _ _ _ _ _ _ _ _ => S
      refine k _ _ _ S.cx.keep (S.cx.mus _ (.head _)).2 ?_
      have := S.mo (.head _)
      rw [List.length_map, List.take_length] at this
      rw [pcs_eq]
      exact this
end
theorem with_calls2 : True := by
  k_with "call ref" =>
    ((rename St .. => S0); (with_reducible refine c_pick S0 (by k_dflt (repeat (first | exact Up.head | apply Up.tail))) (MO.Is.le (by k_dflt assumption) (Cx.keep (St.cx S0))) (by k_dflt assumption) (Rm.le (by k_dflt assumption) (by k_dflt omega)) (by k_dflt (first | decide | omega)) (by k_dflt omega) (by k_dflt assumption) ?_); clear S0; intro _ _ _ _ _ _ _)
  k_with "some" =>
    (repeat (first | exact List.forall_mem_nil _ | refine List.forall_mem_cons.mpr ⟨by first | k_mem | exact .head _, ?_⟩))
  k_with "go" =>
    repeat' ((fail_if_success (with_reducible show Hold _)); first
      | (with_reducible refine ite_true_iff ?_)
      | ((with_reducible show wpAny _ _ (newTuple _) _ _ _); (walk_at "newTuple"))
      | (with_reducible refine ite_false_iff ?_)
      | (with_reducible refine ite_T_iff ?_)
      | (with_reducible refine ite_F_iff ?_)
      | ((with_reducible show wpAny _ _ (eval (Expr.ListComp _ _ _ _) _) _ _ _); (rename St .. => S0); (refine r_comp S0 (by k_dflt rfl) (by k_dflt rfl) (by k_dflt rfl) (by k_dflt rfl) ?_))
      | ((with_reducible show wpAny _ _ (eval (Expr.Dict [] [] _) _) _ _ _); (rename St .. => S0); (with_reducible refine r_newSD' S0 ?_); clear S0; intro _ _ _ _)
      | ((with_reducible show wpAny _ _ (eval (Expr.Dict [some _] [_] _) _) _ _ _); (rename St .. => S0); (with_reducible refine r_dict1 S0 ?_); clear S0; intro _ _ _ _ _)
      | ((with_reducible show wpAny _ _ (newList _) _ _ _); (walk_at "newList"))
      | ((with_reducible show wpAny _ _ (eval (Expr.Name _ _) _) _ _ _); (walk_at "eval Name"))
      | walk1)
  k_with "gq" =>
    repeat' ((fail_if_success (with_reducible show Hold _)); (fail_if_success (with_reducible show wpAny _ _ (subscriptTail _ _ _ _) _ _ _)); first
      | (with_reducible refine ite_true_iff ?_)
      | ((with_reducible show wpAny _ _ (newTuple _) _ _ _); (walk_at "newTuple"))
      | (with_reducible refine ite_false_iff ?_)
      | (with_reducible refine ite_T_iff ?_)
      | (with_reducible refine ite_F_iff ?_)
      | ((with_reducible show wpAny _ _ (eval (Expr.ListComp _ _ _ _) _) _ _ _); (rename St .. => S0); (refine r_comp S0 (by k_dflt rfl) (by k_dflt rfl) (by k_dflt rfl) (by k_dflt rfl) ?_))
      | ((with_reducible show wpAny _ _ (eval (Expr.Dict [] [] _) _) _ _ _); (rename St .. => S0); (with_reducible refine r_newSD' S0 ?_); clear S0; intro _ _ _ _)
      | ((with_reducible show wpAny _ _ (eval (Expr.Dict [some _] [_] _) _) _ _ _); (rename St .. => S0); (with_reducible refine r_dict1 S0 ?_); clear S0; intro _ _ _ _ _)
      | ((with_reducible show wpAny _ _ (newList _) _ _ _); (walk_at "newList"))
      | ((with_reducible show wpAny _ _ (eval (Expr.Name _ _) _) _ _ _); (walk_at "eval Name"))
      | walk1)
  k_with "dk" =>
    ((rename St .. => S0); (refine Hold.mk ⟨_, _, _, _, _, rfl, S0, ?_⟩); clear S0; intro _ _ _)
  trivial
theorem reset_11 : True := by w_top off; trivial
section
variable {w : World} {mg mb : Str → Option Value} {h₀ h : Heap} {A : Around} {E : Value → Shared → Prop} {g : Array GenState} {dr : Drawn} {os : OsState} {tk : Nat}
noncomputable def pk : Nat → Nat
  | 0 => 1
  | n + 1 => 1 + 3 * pk n
theorem zT_le {c : Nat} : ∀ {l : List Tm}, (∀ t ∈ l, t.size ≤ c) → zT l ≤ l.length * c
  | [], _ => by simp [zT]
  | t :: l, h => by
    have h1 := h t (.head _)
    have h2 := zT_le fun x hx => h x (.tail _ hx)
    simp only [zT, List.length_cons, Nat.add_mul]
    omega
theorem nd4b {a b c d : Addr} (h : [a, b, c, d].Nodup) : [a, d, b, c].Nodup := by
  have p : ([a, b, c, d] : List Addr).Perm [a, d, b, c] := (((List.Perm.swap d c []).cons b).trans (List.Perm.swap d b [c])).cons a
  exact p.nodup_iff.mp h
set_option maxHeartbeats 40000000 in
theorem c_lterm : ∀ (n : Nat) {fd rl : Addr} {b : Int} {tn : Tok} {row : List Int} {h₀ h : Heap} {L : Addr} {m : Str → Option Value} {mu mu' : List (Addr × MO)} {fs : List (Value × PyData)} {A : Around} {tk : Nat} {E : Value → Shared → Prop} {Q : Value → Shared → Prop}
    (S : St PySem.Challenge.rw_rh0006_01.row.prog w (Mine.hd.heap_1 w.params) mg mb h₀ L m mu fs h) (u : Up fd (.feed rl b) (.feed rl (b + pk n)) mu mu') (hr : (MO.ld (row.map .int)).Is PySem.Challenge.rw_rh0006_01.row.prog w h rl) (hne : rl ≠ fd) (R : Rm A (n + 4)) (hb : b + pk n < 1000) (hrow : row.length < 1000)
    (k : ∀ a (t : Tm) h' tk', t.fit (n + 1) → t.size ≤ pk n → St PySem.Challenge.rw_rh0006_01.row.prog w (Mine.hd.heap_1 w.params) mg mb h₀ L m mu' ((.ref a, t.d) :: fs) h' → Q (.ref a) ⟨h', g, dr, tk', os⟩),
    wpAny (model PySem.Challenge.rw_rh0006_01.row.prog w) A (call (.ref 302) [.ref fd, .int n tn]) Q E ⟨h, g, dr, tk, os⟩ := by
  intro n
  induction n with
  | zero =>
    intro fd rl b tn row h₀ h L m mu mu' fs A tk E Q S u hr hne R hb hrow k
    obtain ⟨kk, tkk, hn0, hnb, C⟩ := S.feedCx u.mem
    have hr' := hide_ld hr hne (fun o vs n e hc hd => (S.mo u.mem).notTup e hc hd)
    have C := C.feedM hn0 hnb
    refine enterC [("feed", .ref fd), ("floors", .int 0 tn)] (fun L => [("floors", L+1+1), ("feed", L+1)]) (fun L => [(L+1+1, .cell (.int 0 tn)), (L+1, .cell (.ref fd))]) (fun y => none) C R (by k_is) (by k_is) rfl (by rfl) (by decide) (fun L => rfl) (fun L => rfl) (by rfl) ?_
    intro A' L' h₁ tk₁ R₁ S₁
    dsimp only [List.cons_append, List.nil_append] at S₁
    have hb : b + 1 < 1000 := hb
    walk_at "gq"
    · refine r_ab (by assumption) (by assumption) ?_
      intro y t9 t9' hy
      walk_at "gq"
      rename St _ _ _ _ _ _ _ _ _ _ _ => S₂
      refine k _ (.mk y []) _ _ ⟨hy, fun _ h => nomatch h⟩ (Nat.le_refl _) ((S.fedM u S₂ (by k_mem) (Int.le_refl _)).fact ?_)
      rw [Tm.d, dT]
      exact S₂.td (by k_mem)
    · exfalso; omega
  | succ n ih =>
    intro fd rl b tn row h₀ h L m mu mu' fs A tk E Q S u hr hne R hb hrow k
    obtain ⟨kk, tkk, hn0, hnb, C⟩ := S.feedCx u.mem
    have hr' := hide_ld hr hne (fun o vs n e hc hd => (S.mo u.mem).notTup e hc hd)
    have C := C.feedM hn0 hnb
    have hpk : pk (n + 1) = 1 + 3 * pk n := rfl
    have hb1 : b + 1 < 1000 := by omega
    refine enterC [("feed", .ref fd), ("floors", .int (n + 1 : Nat) tn)] (fun L => [("floors", L+1+1), ("feed", L+1)]) (fun L => [(L+1+1, .cell (.int (n + 1 : Nat) tn)), (L+1, .cell (.ref fd))]) (fun y => none) C R (by k_is) (by k_is) rfl (by rfl) (by decide) (fun L => rfl) (fun L => rfl) (by rfl) ?_
    intro A' L' h₁ tk₁ R₁ S₁
    dsimp only [List.cons_append, List.nil_append] at S₁
    walk_at "gq"
    all_goals first | (exfalso; omega) | skip
    · refine r_ab (by assumption) (by assumption) ?_
      intro y t9 t9' hy
      walk_at "gq"
      rename St _ _ _ _ _ _ _ _ _ _ _ => S₂
      refine k _ (.mk y []) _ _ ⟨hy, fun _ h => nomatch h⟩ (by show 1 ≤ _; omega) ((S.fedM u S₂ (by k_mem) (by omega)).fact ?_)
      rw [Tm.d, dT]
      exact S₂.td (by k_mem)
    · rename St _ _ _ _ _ _ _ _ _ _ _ => S₂
      rename_i x9 t9a h9a t9b hx0 hx1 h9b t9c hx2 a9 h9c t9d
      obtain ⟨N, o, hN0, hN1, e1, ho, e2⟩ : ∃ (N : Nat) (o : Str), 1 ≤ N ∧ N ≤ 3 ∧ ([PyData.int 1, .int 2, .int 2, .int 3] : List PyData)[(x9 - 2).toNat]? = some (.int N) ∧ o ∈ gOps ∧
          ([PyData.str "", .str "f", .str "g", .str "h"] : List PyData)[((N : Int)).toNat]? = some (.str o) := by
        obtain rfl | rfl | rfl | rfl : x9 = 2 ∨ x9 = 3 ∨ x9 = 4 ∨ x9 = 5 := by omega
        · exact ⟨1, "f", by omega, by omega, rfl, by decide, rfl⟩
        · exact ⟨2, "g", by omega, by omega, rfl, by decide, rfl⟩
        · exact ⟨2, "g", by omega, by omega, rfl, by decide, rfl⟩
        · exact ⟨3, "h", by omega, by omega, rfl, by decide, rfl⟩
      refine r_item_i (S₂.td (.head _)) (by omega) (by omega) e1 ?_
      intro tN
      walk_at "gq"
      rename St _ _ _ _ _ _ _ _ _ _ _ => S₂
      refine r_item_s (S₂.td (.head _)) (by omega) (by omega) e2 ?_
      intro to
      walk_at "gq"
      rename_i r9 t9e u9 v9 h9d t9f S₃
      refine r_iterRng S₃ (small_of (by decide) (by omega) (.inl rfl)) (N := N) rsize_up ?_
      intro I h₄ tk₄ S₄
      have S₄ := S₄.sub (mu' := (rngMo I 0 1 N 0 ++ [(fd, .feed rl (b + 1 + pk n * (0 : Nat)))]) ++ [(L' + 1 + 1, .cell (.int (n + 1 : Nat) tn)), (L' + 1, .cell (.ref fd))]) (by rw [show b + 1 + (pk n : Int) * (0 : Nat) = b + 1 by simp]; walk_at "some") (by exact nd4b S₄.cx.nd)
      refine r_chE (fun i a => ∃ ts : List Tm, ts.length = i ∧ (∀ t ∈ ts, t.fit (n + 1) ∧ t.size ≤ pk n) ∧ a = .ld (ts.map Tm.d)) (fun i => [(fd, .feed rl (b + 1 + pk n * (i : Nat)))]) (.ld []) ⟨[], rfl, (fun _ h => nomatch h), rfl⟩ S₄ self_rng (fun C => head_rng R₁.hh rfl rfl) (.inl rfl) ?_ ?_ ?_
      · intros; trivial
      · rintro h₁ C D O i hi a ⟨ts, hl, hts, rfl⟩ bb f m h tk ⟨t9, rfl, rfl⟩ S
        dsimp only [mB, List.cons_append, List.nil_append] at S
        walk_at "gq"
        rename St _ _ _ _ _ _ _ _ _ _ _ => S
        rw [show ((n + 1 : Nat) : Int) - 1 = n by omega]
        have hpi : (pk n : Int) * (i : Nat) ≤ pk n * 2 := by
          have : pk n * i ≤ pk n * 2 := Nat.mul_le_mul_left _ (by omega)
          omega
        refine ih (row := row) S (mu' := [(I, _), (D, _), (fd, .feed rl (b + 1 + pk n * (i : Nat) + pk n))]) (.tail (.tail .head)) (hr'.le (O.le.trans S.cx.keep)) hne (Rm.le R₁ (by omega)) (by omega) hrow ?_
        intro a t h' tk' hf hz S
        rw [show b + 1 + (pk n : Int) * (i : Nat) + pk n = b + 1 + pk n * ((i + 1 : Nat) : Int) by push_cast; rw [Int.mul_add, Int.mul_one]; omega] at S
        walk_at "gq"
        rename St _ _ _ _ _ _ _ _ _ _ _ => S
        refine Hold.mk ⟨_, ⟨ts ++ [t], by simp [hl], ?_, rfl⟩, ?_⟩
        · intro x hx
          rcases List.mem_append.mp hx with hx | hx
          · exact hts x hx
          · rw [List.mem_singleton.mp hx]; exact ⟨hf, hz⟩
        · rw [List.map_append]
          exact Goes.of (S.facts (by walk_at "old"))
      · rintro a D h₆ tk₆ ⟨ts, hl, hts, rfl⟩ S
        dsimp only [List.cons_append, List.nil_append] at S
        walk_at "gq"
        rename St _ _ _ _ _ _ _ _ _ _ _ => S₅
        have hz2 := zT_le (c := pk n) fun t ht => (hts t ht).2
        have hz3 : ts.length * pk n ≤ 3 * pk n := Nat.mul_le_mul_right _ (by omega)
        have hz4 : (pk n : Int) * (N : Nat) ≤ 3 * pk n := by
          have : pk n * N ≤ pk n * 3 := Nat.mul_le_mul_left _ hN1
          omega
        refine k _ (.mk o ts) _ _ ⟨ho, fun t ht => (hts t ht).1⟩ (by simp only [Tm.size]; omega) ((S.fedM u S₅ (by k_mem) (by omega)).fact ?_)
        rw [Tm.d, dT_map]
        exact S₅.td (by k_mem)
end
theorem reset_12 : True := by w_top off; trivial
section
variable {w : World} {mg mb : Str → Option Value} {h₀ h : Heap} {A : Around} {E : Value → Shared → Prop} {g : Array GenState} {dr : Drawn} {os : OsState} {tk : Nat}
set_option maxHeartbeats 40000000 in
theorem c_islaid : ∀ (p : Path) {vf vt vq : Value} {b : Addr} {t u : Tm} {q : Pap} {n : Nat} {h : Heap} {A : Around} {tk : Nat} {E : Value → Shared → Prop} {Q : Value → Shared → Prop}
    (G : Gd (Mine.hd.heap_1 w.params) mg mb h) (R : Rm A (p.length + 4)) (TF : TD h vf (wi t p q).d) (TT : TD h vt t.d) (TP : TD h (.ref b) (pt p)) (TQ : TD h vq q.d) (hu : t.at p = some u) (hf : t.fit n) (hn : n ≤ 50) (hz : t.size < 1000) (hl : p.length < 1000) (hq : q.isSame = false) (hlay : lay 60 q.d)
    (k : ∀ h' tk', Le h h' → Q (.bool true) ⟨h', g, dr, tk', os⟩),
    wpAny (model PySem.Challenge.rw_rh0006_01.row.prog w) A (call (.ref 326) [vf, vt, .ref b, vq]) Q E ⟨h, g, dr, tk, os⟩
  | [], vf, vt, vq, b, t, u, q, n, h, A, tk, E, Q, G, R, TF, TT, TP, TQ, hu, hf, hn, hz, hl, hq, hlay, k => by
    refine enter [("found", vf), ("term", vt), ("path", .ref b), ("paper", vq)] ((((cx0 G TF).fact TT).fact TP).fact TQ) R (by k_is) (by k_is) rfl rfl (by rfl) ?_
    intro A' L h₁ tk₁ R₁ S
    walk_at "go"
    rename St _ _ _ _ _ _ _ _ _ _ _ => S
    refine r_eqSame R₁ (d := .tuple []) (S.td (by k_mem)) (S.td (by k_mem)) (by decide) ?_
    walk_at "go"
    rename St _ _ _ _ _ _ _ _ _ _ _ => S
    refine r_eqSame R₁ (d := q.d) (S.td (by k_mem)) (S.td (by k_mem)) (hlay.shaped (by decide)) ?_
    walk_at "go"
    rename St _ _ _ _ _ _ _ _ _ _ _ => S
    exact k _ _ S.cx.keep
  | kk :: r, vf, vt, vq, b, t, u, q, n, h, A, tk, E, Q, G, R, TF, TT, TP, TQ, hu, hf, hn, hz, hl, hq, hlay, k => by
    obtain ⟨h0, x, hx, hr⟩ := Tm.at_cons hu
    have hns := wi_notsame hq hr
    have hl' : r.length < 999 := by simp only [List.length_cons] at hl; omega
    rw [wi_under h0 hx hns, under_d] at TF
    obtain ⟨af, rfl⟩ : ∃ a, vf = .ref a := by obtain ⟨a, _, _, rfl, _⟩ := TF.tup_inv; exact ⟨a, rfl⟩
    obtain ⟨at', rfl⟩ := TmRef TT
    have T2 := TT
    rw [Tm.d_eq] at T2
    refine enter [("found", .ref af), ("term", .ref at'), ("path", .ref b), ("paper", vq)] ((((cx0 G TF).fact T2).fact TP).fact TQ) R (by k_is) (by k_is) rfl rfl (by rfl) ?_
    intro A' L h₁ tk₁ R₁ S
    have hkl : t.kids.length < 1000 := by have := len_zT t.kids; have := t.size_kids; omega
    walk_at "go"
    rename St _ _ _ _ _ _ _ _ _ _ _ => S
    refine r_eqD R₁ (d := pt (kk :: r)) (e := .tuple []) (S.td (by k_mem)) (S.td (by k_mem)) ((lay_pt 0 _).shaped (by decide)) (by decide) ?_
    rw [show PyData.eqv (pt (kk :: r)) (.tuple []) = false from rfl]
    have hkw : (kidsW t kk (wi x r q)).length = t.kids.length := kidsW_len
    walk_at "go"
    · exfalso; rename (t.op != t.op) = true => hc; simp at hc
    · exfalso; simp only [List.length_map, List.length_cons] at *; omega
    refine wpAny_For ?_
    walk_at "go"
    rename_i tp hB tB e it hC tC S
    refine (self_enu (muF := [])).iter S ?_
    refine r_fl (head_enumT (ds := t.kids.map Tm.d) R₁.hh rfl rfl rfl) (fun i m mu fs => fs = [(.ref tp, .tuple (t.kids.map Tm.d)), (vq, q.d), (.ref b, pt (kk :: r)), (.ref at', .tuple (.str t.op :: t.kids.map Tm.d)),
        (.ref af, .tuple [.str "under", .str t.op, .tuple (List.map Pap.d (kidsW t kk (wi x r q)))])] ∧ m "found" = some (.ref af) ∧ m "term" = some (.ref at') ∧ m "path" = some (.ref b) ∧ m "paper" = some vq ∧ mu = [])
      ?_ ⟨rfl, rfl, rfl, rfl, rfl, rfl⟩ (S.facts (by walk_at "some")) ?_ ?_
    · rintro i m mu fs h hi ⟨rfl, _⟩ S; exact S.td (by k_mem)
    · rintro i hi bb f m mu fs h tk ⟨t9, v, d, hd, rfl, rfl⟩ ⟨rfl, hm1, hm2, hm3, hm4, rfl⟩ S
      refine gen_F fun Qn hQn => ?_
      dsimp only [mB, List.cons_append, List.nil_append] at S
      obtain ⟨kid, hkid, rfl⟩ : ∃ p', t.kids[i]? = some p' ∧ p'.d = d := by simpa using hd
      have hi' : i < 1000 := by have := (List.getElem?_eq_some_iff.mp hkid).1; omega
      by_cases hik : (i : Int) = kk
      · walk_at "go"
        · exfalso; omega
        rename St _ _ _ _ _ _ _ _ _ _ _ => S
        refine hQn _ ?_
        refine Hold.mk ⟨_, _, _, _, _, rfl, ⟨rfl, ?_, ?_, ?_, ?_, rfl⟩, S.facts (by walk_at "some")⟩
        · exact hm1
        · exact hm2
        · exact hm3
        · exact hm4
      · have hs2 : (List.map Pap.d (kidsW t kk (wi x r q)))[((i : Nat) : Int).toNat]? = some (.tuple [.str "same", kid.d]) := by
          rw [Int.toNat_natCast, List.getElem?_map, kidsW_get hkid, if_neg hik, Option.map_some, same_d]
        walk_at "go"
        rename St _ _ _ _ _ _ _ _ _ _ _ => S
        refine r_item_t S (S.td (.head _)) (by omega) (by omega) hs2 ?_
        intro bi S
        walk_at "go"
        rename St _ _ _ _ _ _ _ _ _ _ _ => S
        have hkf : lay 60 kid.d := by
          cases n with
          | zero => exact hf.elim
          | succ n => exact (hf.2 kid (List.mem_of_getElem? hkid)).lay.le (by omega)
        refine r_neSame R₁ (d := .tuple [.str "same", kid.d]) (S.td (by k_mem)) (S.td (by k_mem)) ((lay_tup (n := 60) fun d hd => ?_).shaped (by decide)) ?_
        · rcases List.mem_cons.mp hd with rfl | hd
          · exact lay_kind _ (by simp)
          · rw [List.mem_singleton.mp hd]; exact hkf
        walk_at "go"
        rename St _ _ _ _ _ _ _ _ _ _ _ => S
        refine hQn _ ?_
        refine Hold.mk ⟨_, _, _, _, _, rfl, ⟨rfl, ?_, ?_, ?_, ?_, rfl⟩, S.facts (by walk_at "some")⟩
        · exact hm1
        · exact hm2
        · exact hm3
        · exact hm4
        · exfalso; omega
    · rintro m mu fs h tk ⟨rfl, hm1, hm2, hm3, hm4, rfl⟩ S
      walk_at "go"
      rename St _ _ _ _ _ _ _ _ _ _ _ => S
      have hx3 : kk.toNat < t.kids.length := (List.getElem?_eq_some_iff.mp hx).1
      refine r_itemX S (d := (wi x r q).d) (S.td (.head _)) (by omega) (by omega) (by rw [List.getElem?_map, kidsW_at h0 hx]; rfl) ?_
      intro vw S
      walk_at "go"
      rename St _ _ _ _ _ _ _ _ _ _ _ => S
      refine r_itemX S (d := x.d) (ds := .str t.op :: t.kids.map Tm.d) (S.td (by k_mem)) (by omega) (by omega) (by rw [show (kk + 1).toNat = kk.toNat + 1 by omega, List.getElem?_cons_succ, List.getElem?_map, hx]; rfl) ?_
      intro vx S
      walk_at "go"
      rename St _ _ _ _ _ _ _ _ _ _ _ => S
      have hxs := mem_zT (List.mem_of_getElem? hx)
      have hts := t.size_kids
      cases n with
      | zero => exact hf.elim
      | succ n =>
        refine c_islaid r (n := n) (St.gdh S) (Rm.le R₁ (by simp only [List.length_cons]; omega)) (S.td (by k_mem)) (S.td (by k_mem)) (show TD _ _ (pt r) from S.td (.head _)) (S.td (by k_mem)) hr (hf.2 x (List.mem_of_getElem? hx)) (by omega) (by omega) (by simp only [List.length_cons] at hl; omega) hq hlay ?_
        intro h' tk' l
        exact k _ _ (S.cx.keep.trans l)
end
theorem reset_13 : True := by w_top off; trivial
theorem with_g13 : True := by
  k_with "newTuple" =>
    ((with_reducible show wpAny _ _ (newTuple [_, _, _, _]) _ _ _); (rename St _ _ _ _ _ _ _ _ _ _ _ => S0); (with_reducible refine r_newTupleR (vs := [_, _, _, _]) S0 ?_ (by k_dflt (simp [sizeLine]))); clear S0; intro _ _ _ _ _ _)
  trivial
section
variable {w : World} {mg mb : Str → Option Value} {h₀ h : Heap} {L : Addr} {m : Str → Option Value} {mu mu' : List (Addr × MO)} {fs : List (Value × PyData)} {A : Around} {E : Value → Shared → Prop} {g : Array GenState} {dr : Drawn} {os : OsState} {tk : Nat}
set_option maxHeartbeats 40000000 in
theorem c_lpaper {fd rl : Addr} {b : Int} {vu : Value} {u : Tm} {n : Nat} {row : List Int} {Q : Value → Shared → Prop}
    (Sc : St PySem.Challenge.rw_rh0006_01.row.prog w (Mine.hd.heap_1 w.params) mg mb h₀ L m mu fs h) (up : Up fd (.feed rl b) (.feed rl (b + 3)) mu mu') (hr : (MO.ld (row.map .int)).Is PySem.Challenge.rw_rh0006_01.row.prog w h rl) (hne : rl ≠ fd) (R : Rm A 6) (hb : b + 3 < 1000) (hrow : row.length < 1000)
    (TU : TD h vu u.d) (hf : u.fit n) (hz : u.size < 1000)
    (k : ∀ r h' tk' vq td vl ls l q kv u' ss tl tr, late l → PS u l q tl tr u' ss → St PySem.Challenge.rw_rh0006_01.row.prog w (Mine.hd.heap_1 w.params) mg mb h₀ L m ((td, .sd kv) :: (ls, .ld (ss.map sdat)) :: mu') ((vq, q.d) :: (vl, u'.d) :: fs) h' → h'.IsTuple r #[vq, .ref td, vl, .ref ls] →
      ((kv = [] ∧ q = .same u) ∨ ((td == sysModules) = false ∧ ∃ pa, kv = [(Str.ofString "t", .ref pa)] ∧ TD h' (.ref pa) (.tuple [tl.d, tr.d]))) → Q (.ref r) ⟨h', g, dr, tk', os⟩) :
    wpAny (model PySem.Challenge.rw_rh0006_01.row.prog w) A (call (.ref 319) [.ref fd, vu]) Q E ⟨h, g, dr, tk, os⟩ := by
  obtain ⟨kk, tkk, hn0, hnb, C⟩ := Sc.feedCx up.mem
  have hr' := hide_ld hr hne (fun o vs n e hc hd => (Sc.mo up.mem).notTup e hc hd)
  have TU' : TD (hideAll h [fd]) vu u.d := TU.mono fun a o us j q hc hd => hideAll_get _ q fun q' => (Sc.mo up.mem).notTup (by rw [List.mem_singleton.mp q'] at q; exact q) hc hd
  have C := C.feedM hn0 hnb
  obtain ⟨au, rfl⟩ := TmRef TU'
  have T2 := TU
  rw [Tm.d_eq] at T2
  refine enterC [("feed", .ref fd), ("part", .ref au)] (fun L => [("spot", L+1)]) (fun L => [(L+1, .cellU)]) (fun y => if y = "part" then some (.ref au) else if y = "feed" then some (.ref fd) else none) ((C.fact TU).fact T2) R (by k_is) (by k_is) rfl (by rfl) (by decide) (fun L => rfl) (fun L => rfl) (by rfl) ?_
  intro A' L' h₁ tk₁ R₁ S₁
  dsimp only [List.cons_append, List.nil_append] at S₁
  have hb1 : b + 1 < 1000 := by omega
  have hb2 : b + 1 + 1 < 1000 := by omega
  have hkl : u.kids.length < 1000 := by have := len_zT u.kids; have := u.size_kids; omega
  walk_at "go"
  rename_i way t1 h1 t2 hw0 hw1 b1 b2 b3 b4 b5 b6 b7 b8 b9 c1 c2 c3 x9 t9a h9a t9b hx0 hx1 S₂
  obtain ⟨l, hll, el⟩ : ∃ l : Tm, late l ∧ ([.tuple [.str (Str.ofString "c")], .tuple [.str (Str.ofString "f"), .tuple [.str (Str.ofString "c")]]] : List PyData)[x9.toNat]? = some l.d := by
    obtain rfl | rfl : x9 = 0 ∨ x9 = 1 := by omega
    · exact ⟨.mk "c" [], .inl rfl, by simp only [Tm.d, dT]; rfl⟩
    · exact ⟨.mk "f" [.mk "c" []], .inr rfl, by simp only [Tm.d, dT]; rfl⟩
  refine r_itemX S₂ (d := l.d) (S₂.td (by k_mem)) (by omega) (by omega) el ?_
  intro vl S
  walk_at "go"
  rename St _ _ _ _ _ _ _ _ _ _ _ => S
  obtain ⟨tw, rfl⟩ := (S.td (.head _)).int_inv
  rename_i vlate d1 d2 d3 d4 d5
  have S := S.facts (fs' := [(vlate, l.d), (.ref au, .tuple (.str u.op :: u.kids.map Tm.d)), (.ref au, u.d)]) (by walk_at "some")
  clear T2 TU TU' hx0 hx1 el S₂
  refine St.genM (P := fun m => m (Str.ofString "way") = some (.int way tw) ∧ m (Str.ofString "late") = some vlate ∧ m (Str.ofString "part") = some (.ref au) ∧ m (Str.ofString "feed") = some (.ref fd)) S ⟨rfl, rfl, rfl, rfl⟩ ?_
  clear S
  rintro m₄ ⟨f1, f2, f3, f4⟩ S
  have elen : ((↑(PyData.str u.op :: List.map Tm.d u.kids).length : Int) == 1) = decide (u.kids.length = 0) := by
    rw [List.length_cons, List.length_map]
    by_cases hk : u.kids.length = 0
    · rw [hk]; rfl
    · rw [decide_eq_false hk]
      exact beq_eq_false_iff_ne.mpr (by omega)
  have hlen : (PyData.str u.op :: List.map Tm.d u.kids).length = u.kids.length + 1 := by simp
  walk1
  walk1
  walk1
  · walk_at "go"
    rename_i pa e1 e2 td e3 e4 ls e5 e6 r e7 e8 _ hT S
    refine k r _ _ (.ref pa) td (.ref au) ls l (.same u) [] u [] u u hll .same (((lp_end Sc up S (by k_mem) (by omega) (by k_mem) (by k_mem)).fact (S.td (by k_mem))).fact ?_) hT (.inl ⟨rfl, rfl⟩)
    rw [same_d, Tm.d_eq]; exact S.td (by k_mem)
  iterate 9 walk1
  · walk_at "go"
    walk_at "dk"
    walk_at "go"
    rename St _ _ _ _ _ _ _ _ _ _ _ => S
    rename Heap.IsTuple _ _ _ => hT
    have Z := lp_end Sc up S (by k_mem) (by omega) (by k_mem) (by k_mem)
    refine k _ _ _ _ _ _ _ l (.told "t") _ l [([], false)] u l hll .told ((Z.fact (S.td (by k_mem))).fact (by rw [told_d]; exact S.td (by k_mem))) hT (.inr ⟨by assumption, _, rfl, (by rw [show u.d = _ from Tm.d_eq u]; exact S.td (by k_mem))⟩)
  iterate 10 walk1
  refine ite_true_iff ?_
  · walk_at "go"
    walk_at "dk"
    walk_at "go"
    rename St _ _ _ _ _ _ _ _ _ _ _ => S
    rename Heap.IsTuple _ _ _ => hT
    have Z := lp_end Sc up S (by k_mem) (by omega) (by k_mem) (by k_mem)
    refine k _ _ _ _ _ _ _ l (.turn (.told "t")) _ l [([], true)] l u hll .turn ((Z.fact (S.td (by k_mem))).fact (by rw [turn_d, told_d]; exact S.td (by k_mem))) hT (.inr ⟨by assumption, _, rfl, (by rw [show u.d = _ from Tm.d_eq u]; exact S.td (by k_mem))⟩)
  iterate 11 walk1
  rw [elen]
  by_cases hk : u.kids.length = 0
  · rw [decide_eq_true hk]
    walk_at "go"
    walk_at "dk"
    walk_at "go"
    rename St _ _ _ _ _ _ _ _ _ _ _ => S
    rename Heap.IsTuple _ _ _ => hT
    have Z := lp_end Sc up S (by k_mem) (by omega) (by k_mem) (by k_mem)
    refine k _ _ _ _ _ _ _ l (.turn (.told "t")) _ l [([], true)] l u hll .turn ((Z.fact (S.td (by k_mem))).fact (by rw [turn_d, told_d]; exact S.td (by k_mem))) hT (.inr ⟨by assumption, _, rfl, (by rw [show u.d = _ from Tm.d_eq u]; exact S.td (by k_mem))⟩)
  · rw [decide_eq_false hk]
    iterate 12 (first | (with_reducible refine ite_false_iff ?_) | (with_reducible refine ite_F_iff ?_) | walk1)
    walk1
    · walk_at "go"
      walk_at "dk"
      walk_at "go"
      rename St _ _ _ _ _ _ _ _ _ _ _ => S
      rename Heap.IsTuple _ _ _ => hT
      have Z := lp_end Sc up S (by k_mem) (by omega) (by k_mem) (by k_mem)
      refine k _ _ _ _ _ _ _ l (.join (.told "t") (.turn (.told "t"))) _ u [([], false), ([], true)] u l hll .join ((Z.fact (S.td (by k_mem))).fact (by rw [join_d, turn_d, told_d]; exact S.td (by k_mem))) hT (.inr ⟨by assumption, _, rfl, (by rw [show u.d = _ from Tm.d_eq u]; exact S.td (by k_mem))⟩)
    walk_at "go"
    rename_i sp t1' h1' t2' hs0 hs1 h2' t3' tp h3' t4' e it h4' t5' S
    obtain ⟨i, hsp⟩ := Int.eq_ofNat_of_zero_le hs0
    have hi : i < u.kids.length := by rw [hlen] at hs1; omega
    obtain ⟨x, hx⟩ : ∃ x, u.kids[i]? = some x := ⟨_, List.getElem?_eq_getElem hi⟩
    have S := S.facts (fs' := [(.ref tp, .tuple (u.kids.map Tm.d)), (vlate, l.d), (.ref au, .tuple (.str u.op :: u.kids.map Tm.d)), (.ref au, u.d)]) (by walk_at "some")
    have hps : ∀ (j : Nat) (kid : Tm), u.kids[j]? = some kid → (kidsW u sp (.told "t"))[j]? = some (if (j : Int) = sp then .told "t" else .same kid) := fun j kid hj => kidsW_get hj
    have hpl : (kidsW u sp (.told "t")).length = u.kids.length := kidsW_len
    have hui : u.at [sp] = some x := by rw [hsp]; simp [Tm.at, hx]
    refine (self_enu (muF := [])).iter S ?_
    refine r_ch (fun j => .ld (((kidsW u sp (.told "t")).map Pap.d).take j)) (fun _ => []) S (self_enu (muF := [])) (fun C => head_enumT (ds := u.kids.map Tm.d) R₁.hh rfl rfl rfl) (.inl rfl) ?_ ?_ ?_
    · intro h₁ C D O j m h hj S; exact S.td (.head _)
    · rintro h₁ C D O j hj bf f m h tk ⟨t9, v, d, hd, rfl, rfl⟩ S
      dsimp only [mB, List.cons_append, List.nil_append] at S
      have hj' : j < u.kids.length := by simpa using hj
      obtain ⟨kid, hkid, rfl⟩ : ∃ p', u.kids[j]? = some p' ∧ p'.d = d := by simpa using hd
      rw [take_next (x := (if (j : Int) = sp then Pap.told "t" else .same kid).d) (by rw [List.getElem?_map, hps j kid hkid]; rfl)]
      by_cases hjk : (j : Int) = sp
      · rw [if_pos hjk, told_d]
        walk_at "go"
        all_goals first | (exfalso; omega) | skip
        rename St _ _ _ _ _ _ _ _ _ _ _ => S
        exact Goes.of (S.facts (by walk_at "old"))
      · rw [if_neg hjk, same_d]
        walk_at "go"
        all_goals first | (exfalso; omega) | skip
        rename St _ _ _ _ _ _ _ _ _ _ _ => S
        exact Goes.of (S.facts (by walk_at "old"))
    · intro D h₆ tk₆ S
      dsimp only [List.cons_append, List.nil_append] at S
      rw [List.take_of_length_le (by simp [hpl])] at S
      walk_at "go"
      rename St _ _ _ _ _ _ _ _ _ _ _ => S
      refine r_itemX S (d := x.d) (ds := .str u.op :: u.kids.map Tm.d) (S.td (by k_mem)) (by omega) (by omega) (by rw [show (sp + 1).toNat = i + 1 by omega, List.getElem?_cons_succ, List.getElem?_map, hx]; rfl) ?_
      intro vx S
      walk_at "go"
      walk_at "dk"
      walk_at "go"
      rename St _ _ _ _ _ _ _ _ _ _ _ => S
      refine c_done (p := [sp]) (St.gdh S) (Rm.le R₁ (by simp)) (show TD _ _ u.d from S.td (by k_mem)) (show TD _ _ (pt [sp]) from S.td (.head _)) (S.td (by k_mem)) hui hz (by simp) ?_
      intro vr h₇ tk₇ l₇ Tr
      have S := (S.ext l₇).fact Tr
      walk_at "go"
      rename St _ _ _ _ _ _ _ _ _ _ _ => S
      rename Heap.IsTuple _ _ _ => hT
      subst hsp
      have Z := lp_end Sc up S (by k_mem) (by omega) (by k_mem) (by k_mem)
      refine k _ _ _ _ _ _ _ l (.under u.op (kidsW u i (.told "t"))) _ (dn u [(i : Int)] l) [([(i : Int)], false)] x l hll (.under i x hx) ((Z.fact (S.td (by k_mem))).fact (by rw [under_d]; exact S.td (by k_mem))) hT (.inr ⟨by assumption, _, rfl, S.td (by k_mem)⟩)
end
theorem reset_14 : True := by w_top off; trivial
section
variable {w : World} {mg mb : Str → Option Value} {h₀ h : Heap} {L : Addr} {m : Str → Option Value} {mu mu' : List (Addr × MO)} {fs : List (Value × PyData)} {A : Around} {E : Value → Shared → Prop} {g : Array GenState} {dr : Drawn} {os : OsState} {tk : Nat}
/-- the dict of a Judge -/
noncomputable def jes (w : World) (r t : Addr) (t1 t2 : Tok) : List DictEntry := [⟨PyData.keyHash w.params (Str.ofString "rules"), .str (Str.ofString "rules") t1, .ref r⟩, ⟨PyData.keyHash w.params (Str.ofString "told"), .str (Str.ofString "told") t2, .ref t⟩]
noncomputable def ses (w : World) (j : Addr) (t1 : Tok) : List DictEntry := [⟨PyData.keyHash w.params (Str.ofString "judge"), .str (Str.ofString "judge") t1, .ref j⟩]
set_option maxHeartbeats 40000000 in
theorem c_judge {r t : Addr} {Q : Value → Shared → Prop} (S : St PySem.Challenge.rw_rh0006_01.row.prog w (Mine.hd.heap_1 w.params) mg mb h₀ L m mu fs h) (R : Rm A 6)
    (k : ∀ j dj t1 t2 h' tk', St PySem.Challenge.rw_rh0006_01.row.prog w (Mine.hd.heap_1 w.params) mg mb h₀ L m ((j, .obj (instObj 208 dj)) :: (dj, .obj (dictOf (jes w r t t1 t2) 2)) :: mu) fs h' → Q (.ref j) ⟨h', g, dr, tk', os⟩) :
    wpAny (model PySem.Challenge.rw_rh0006_01.row.prog w) A (call (.ref 208) [.ref r, .ref t]) Q E ⟨h, g, dr, tk, os⟩ := by
  have X := S.gdh.inK
  refine wpAny_call (make_core (makes_of X (by k_is)) (looks_findIn X (show findIn (Mine.hd.heap_1 w.params) (.ref 208) "__init__" = some (some (.ref 176)) by k_is)) (fun self => bind_fn X self (by k_is)) (.inl rfl) ?_)
  generalize hH : (h.push emptyDict).push (instObj 208 h.objs.size) = H
  have l1 : Le h H := fun b o e => hH ▸ Heap.get?_push_of_some _ (Heap.get?_push_of_some _ e)
  have X' : ((Mine.hd.heap_1 w.params)).In H := fun a o e => l1 _ _ (X a o e)
  have hsz : H.objs.size = h.objs.size + 2 := by rw [← hH, Heap.size_push, Heap.size_push]
  have gx : H.get? (h.objs.size + 1) = some (instObj 208 h.objs.size) := by
    have := Heap.get?_push_size (h.push emptyDict) (o := instObj 208 h.objs.size) rfl
    rw [Heap.size_push] at this
    rw [← hH]; exact this
  have gd : H.get? h.objs.size = some emptyDict := by
    rw [← hH]; exact Heap.get?_push_of_some _ (Heap.get?_push_size _ rfl)
  generalize hx : h.objs.size + 1 = x at gx ⊢
  generalize hdx : h.objs.size = dx at gx gd ⊢
  have hne : x ≠ dx := by omega
  have l0 : Le h (hideAll H [x, dx]) := fun b o e => hideAll_get _ (l1 b o e) (by
    have := Heap.lt_size e
    simp only [List.mem_cons, List.not_mem_nil, or_false, not_or]
    exact ⟨fun q => absurd this (by rw [q, ← hx]; exact Nat.not_lt.mpr (Nat.le_succ _)), fun q => absurd this (by rw [q, ← hdx]; exact Nat.lt_irrefl _)⟩)
  have hx2 : (instObj 208 dx).cls ≠ .type "tuple" := by show Value.ref 208 ≠ Value.type "tuple"; intro q; cases q
  have hd2 : emptyDict.cls ≠ .type "tuple" := by show Value.type "dict" ≠ Value.type "tuple"; decide
  have C : Cx PySem.Challenge.rw_rh0006_01.row.prog w (Mine.hd.heap_1 w.params) mg mb (hideAll H [x, dx]) [(x, .obj (instObj 208 dx)), (dx, .obj (dictOf [] 0))] [] H :=
    ⟨S.gdh.le l0, fun b o e => of_hideAll _ e, fun p hp => by
      rcases List.mem_cons.mp hp with rfl | hp
      · exact ⟨⟨gx, hx2⟩, hideAll_none _ (by simp)⟩
      · rw [List.mem_singleton.mp hp]; exact ⟨⟨gd, hd2⟩, hideAll_none _ (by simp)⟩, by simp [hne], fun p hp => nomatch hp⟩
  have R₂ : Rm (A.under (.builtin "type.__call__" ⟨[.ref 208, .ref r, .ref t], []⟩)) 4 := R.make _
  refine codeAny_call_def (fd := fnOf _ _ _ _ _ _ _ _ _ _ _ _) (binds := [(Str.ofString "self", .ref x), (Str.ofString "rules", .ref r), (Str.ofString "told", .ref t)]) (by have := R₂.dp; show _ < recursionLimit; omega) (X' _ _ (by k_is)) rfl (S.gdh.nl.keeps l1) (codeRec_of X' (by k_is)) rfl (BindsTo.of_eq rfl) (by decide) (by intro y hy; simp only [List.mem_cons, List.not_mem_nil, or_false] at hy; rcases hy with rfl | rfl | rfl <;> rfl) (fun h₁ hns hk₁ => ?_) rfl rfl rfl
  have S₁ : St PySem.Challenge.rw_rh0006_01.row.prog w (Mine.hd.heap_1 w.params) mg mb (hideAll H [x, dx]) H.objs.size _ [(x, .obj (instObj 208 dx)), (dx, .obj (dictOf [] 0))] [] h₁ := ⟨C.ext hk₁, hns, C.keep.none_of_size, fun p hp q => by
    obtain ⟨o', e'⟩ := (C.mus p hp).1.ex
    have := Heap.lt_size e'
    rw [q] at this; exact Nat.lt_irrefl _ this⟩
  refine noE_mono ?_
  have R₃ := Rm.deeper R₂ (n := 3)
  walk_at "go"
  refine r_setA (es' := [⟨PyData.keyHash w.params (Str.ofString "rules"), .str (Str.ofString "rules") _, .ref r⟩]) (n' := 1) S₁ (by rw [hideAll_size]; exact Nat.le_refl _) (by k_is) (by k_is) (by k_is) (by k_is) (by rfl) rfl (by simp) ?_
  intro h₂ S₂
  walk_at "go"
  refine r_setA (es' := jes w r t _ _) (n' := 2) S₂ (by rw [hideAll_size]; exact Nat.le_refl _) (by k_is) (by k_is) (by k_is) (by k_is) (by rfl) rfl (by simp [jes]) ?_
  intro h₃ S₃
  walk_at "go"
  obtain ⟨t1, t2, hz⟩ : ∃ t1 t2, (MO.obj (dictOf (jes w r t t1 t2) 2)).Is PySem.Challenge.rw_rh0006_01.row.prog w h₃ dx := ⟨_, _, S₃.mo (.tail _ (.head _))⟩
  have n1 : h.get? x = none := by
    cases q : h.get? x with
    | none => rfl
    | some o => exact absurd (Heap.lt_size q) (by rw [← hx]; exact Nat.not_lt.mpr (Nat.le_succ _))
  have n2 : h.get? dx = none := by
    cases q : h.get? dx with
    | none => rfl
    | some o => exact absurd (Heap.lt_size q) (by rw [← hdx]; exact Nat.lt_irrefl _)
  have Z := S.takes (new := [(x, .obj (instObj 208 dx)), (dx, .obj (dictOf (jes w r t t1 t2) 2))]) (S.ext (l0.trans S₃.cx.keep)) rfl (fun p hp => by
    rcases List.mem_cons.mp hp with rfl | hp
    · exact ⟨S₃.mo (.head _), n1⟩
    · rw [List.mem_singleton.mp hp]; exact ⟨hz, n2⟩) (by simp [hne])
  exact ⟨rfl, k x dx t1 t2 h₃ _ Z⟩
set_option maxHeartbeats 40000000 in
theorem c_steps {r : Addr} {Q : Value → Shared → Prop} (S : St PySem.Challenge.rw_rh0006_01.row.prog w (Mine.hd.heap_1 w.params) mg mb h₀ L m mu fs h) (R : Rm A 6)
    (k : ∀ j dj t1 h' tk', St PySem.Challenge.rw_rh0006_01.row.prog w (Mine.hd.heap_1 w.params) mg mb h₀ L m ((j, .obj (instObj 286 dj)) :: (dj, .obj (dictOf (ses w r t1) 1)) :: mu) fs h' → Q (.ref j) ⟨h', g, dr, tk', os⟩) :
    wpAny (model PySem.Challenge.rw_rh0006_01.row.prog w) A (call (.ref 286) [.ref r]) Q E ⟨h, g, dr, tk, os⟩ := by
  have X := S.gdh.inK
  refine wpAny_call (make_core (makes_of X (by k_is)) (looks_findIn X (show findIn (Mine.hd.heap_1 w.params) (.ref 286) "__init__" = some (some (.ref 250)) by k_is)) (fun self => bind_fn X self (by k_is)) (.inl rfl) ?_)
  generalize hH : (h.push emptyDict).push (instObj 286 h.objs.size) = H
  have l1 : Le h H := fun b o e => hH ▸ Heap.get?_push_of_some _ (Heap.get?_push_of_some _ e)
  have X' : ((Mine.hd.heap_1 w.params)).In H := fun a o e => l1 _ _ (X a o e)
  have hsz : H.objs.size = h.objs.size + 2 := by rw [← hH, Heap.size_push, Heap.size_push]
  have gx : H.get? (h.objs.size + 1) = some (instObj 286 h.objs.size) := by
    have := Heap.get?_push_size (h.push emptyDict) (o := instObj 286 h.objs.size) rfl
    rw [Heap.size_push] at this
    rw [← hH]; exact this
  have gd : H.get? h.objs.size = some emptyDict := by
    rw [← hH]; exact Heap.get?_push_of_some _ (Heap.get?_push_size _ rfl)
  generalize hx : h.objs.size + 1 = x at gx ⊢
  generalize hdx : h.objs.size = dx at gx gd ⊢
  have hne : x ≠ dx := by omega
  have l0 : Le h (hideAll H [x, dx]) := fun b o e => hideAll_get _ (l1 b o e) (by
    have := Heap.lt_size e
    simp only [List.mem_cons, List.not_mem_nil, or_false, not_or]
    exact ⟨fun q => absurd this (by rw [q, ← hx]; exact Nat.not_lt.mpr (Nat.le_succ _)), fun q => absurd this (by rw [q, ← hdx]; exact Nat.lt_irrefl _)⟩)
  have hx2 : (instObj 286 dx).cls ≠ .type "tuple" := by show Value.ref 286 ≠ Value.type "tuple"; intro q; cases q
  have hd2 : emptyDict.cls ≠ .type "tuple" := by show Value.type "dict" ≠ Value.type "tuple"; decide
  have C : Cx PySem.Challenge.rw_rh0006_01.row.prog w (Mine.hd.heap_1 w.params) mg mb (hideAll H [x, dx]) [(x, .obj (instObj 286 dx)), (dx, .obj (dictOf [] 0))] [] H :=
    ⟨S.gdh.le l0, fun b o e => of_hideAll _ e, fun p hp => by
      rcases List.mem_cons.mp hp with rfl | hp
      · exact ⟨⟨gx, hx2⟩, hideAll_none _ (by simp)⟩
      · rw [List.mem_singleton.mp hp]; exact ⟨⟨gd, hd2⟩, hideAll_none _ (by simp)⟩, by simp [hne], fun p hp => nomatch hp⟩
  have R₂ : Rm (A.under (.builtin "type.__call__" ⟨[.ref 286, .ref r], []⟩)) 4 := R.make _
  refine codeAny_call_def (fd := fnOf _ _ _ _ _ _ _ _ _ _ _ _) (binds := [(Str.ofString "self", .ref x), (Str.ofString "judge", .ref r)]) (by have := R₂.dp; show _ < recursionLimit; omega) (X' _ _ (by k_is)) rfl (S.gdh.nl.keeps l1) (codeRec_of X' (by k_is)) rfl (BindsTo.of_eq rfl) (by decide) (by intro y hy; simp only [List.mem_cons, List.not_mem_nil, or_false] at hy; rcases hy with rfl | rfl <;> rfl) (fun h₁ hns hk₁ => ?_) rfl rfl rfl
  have S₁ : St PySem.Challenge.rw_rh0006_01.row.prog w (Mine.hd.heap_1 w.params) mg mb (hideAll H [x, dx]) H.objs.size _ [(x, .obj (instObj 286 dx)), (dx, .obj (dictOf [] 0))] [] h₁ := ⟨C.ext hk₁, hns, C.keep.none_of_size, fun p hp q => by
    obtain ⟨o', e'⟩ := (C.mus p hp).1.ex
    have := Heap.lt_size e'
    rw [q] at this; exact Nat.lt_irrefl _ this⟩
  refine noE_mono ?_
  have R₃ := Rm.deeper R₂ (n := 3)
  walk_at "go"
  refine r_setA (es' := ses w r _) (n' := 1) S₁ (by rw [hideAll_size]; exact Nat.le_refl _) (by k_is) (by k_is) (by k_is) (by k_is) (by rfl) rfl (by simp [ses]) ?_
  intro h₃ S₃
  walk_at "go"
  obtain ⟨t1, hz⟩ : ∃ t1, (MO.obj (dictOf (ses w r t1) 1)).Is PySem.Challenge.rw_rh0006_01.row.prog w h₃ dx   := ⟨_, S₃.mo (.tail _ (.head _))⟩
  have n1 : h.get? x = none := by
    cases q : h.get? x with
    | none => rfl
    | some o => exact absurd (Heap.lt_size q) (by rw [← hx]; exact Nat.not_lt.mpr (Nat.le_succ _))
  have n2 : h.get? dx = none := by
    cases q : h.get? dx with
    | none => rfl
    | some o => exact absurd (Heap.lt_size q) (by rw [← hdx]; exact Nat.lt_irrefl _)
  have Z := S.takes (new := [(x, .obj (instObj 286 dx)), (dx, .obj (dictOf (ses w r t1) 1))]) (S.ext (l0.trans S₃.cx.keep)) rfl (fun p hp => by
    rcases List.mem_cons.mp hp with rfl | hp
    · exact ⟨S₃.mo (.head _), n1⟩
    · rw [List.mem_singleton.mp hp]; exact ⟨hz, n2⟩) (by simp [hne])
  exact ⟨rfl, k x dx t1 h₃ _ Z⟩
end
theorem with_calls3 : True := by
  k_with "attr" =>
    ((with_reducible show wpAny _ _ (getAttr (Value.ref _) _ _) _ _ _); (with_reducible refine r_getA (v := Value.ref _) (attr := none) (by k_dflt assumption) (InstAt_le (by k_dflt assumption) (Cx.keep (St.cx (by k_dflt assumption)))) (by k_dflt k_is) (by k_dflt k_is) (by k_dflt k_is) (by k_dflt rfl) (by k_dflt rfl) (by k_dflt rfl) ?_); intro _)
  k_with "subscriptTail" =>
    ((with_reducible show wpAny _ _ (subscriptTail _ _ (Value.ref _) (Value.str (Str.ofString "t") _)) _ _ _); (with_reducible refine r_getSD (v := Value.ref _) (MO.Is.le (by k_dflt assumption) (Cx.keep (St.cx (by k_dflt assumption)))) (by k_dflt rfl) ?_); intro _)
  k_with "gd" =>
    first
      | (with_reducible refine ite_true_iff ?_)
      | ((with_reducible show wpAny _ _ (subscriptTail _ _ (Value.ref _) (Value.int _ _)) _ _ _); (rename St .. => S0); (with_reducible refine r_itemLT S0 (MO.Is.le (by k_dflt assumption) (Cx.keep (St.cx S0))) (by k_dflt decide) (by k_dflt decide) (by k_dflt rfl) ?_); clear S0; intro _ _)
      | ((with_reducible show wpAny _ _ (getAttr _ _ _) _ _ _); (walk_at "attr"))
      | ((with_reducible show wpAny _ _ (subscriptTail _ _ (Value.ref _) (Value.str (Str.ofString "t") _)) _ _ _); (walk_at "subscriptTail"))
      | (with_reducible refine ite_is_true (by k_dflt decide) ?_)
      | (with_reducible refine ite_is_false (by k_dflt decide) ?_)
      | ((with_reducible show wpAny _ _ (newTuple _) _ _ _); (walk_at "newTuple"))
      | (with_reducible refine ite_false_iff ?_)
      | (with_reducible refine ite_T_iff ?_)
      | (with_reducible refine ite_F_iff ?_)
      | ((with_reducible show wpAny _ _ (eval (Expr.ListComp _ _ _ _) _) _ _ _); (rename St .. => S0); (refine r_comp S0 (by k_dflt rfl) (by k_dflt rfl) (by k_dflt rfl) (by k_dflt rfl) ?_))
      | ((with_reducible show wpAny _ _ (eval (Expr.Dict [] [] _) _) _ _ _); (rename St .. => S0); (with_reducible refine r_newSD' S0 ?_); clear S0; intro _ _ _ _)
      | ((with_reducible show wpAny _ _ (eval (Expr.Dict [some _] [_] _) _) _ _ _); (rename St .. => S0); (with_reducible refine r_dict1 S0 ?_); clear S0; intro _ _ _ _ _)
      | walk1
  k_with "go" =>
    repeat' ((fail_if_success (with_reducible show Hold _)); walk_at "gd")
  k_with "gos" =>
    repeat' ((fail_if_success (with_reducible show Hold _)); (fail_if_success (with_reducible show wpAny _ _ (setItem _ _ _) _ _ _)); (fail_if_success (with_reducible show wpAny _ _ (call (Value.type "reversed") _) _ _ _)); (fail_if_success (with_reducible show wpAny _ _ (call (Value.type "enumerate") _) _ _ _)); first
      | ((with_reducible show wpAny _ _ (subscriptTail _ _ (Value.ref _) (Value.int _ _)) _ _ _); (with_reducible refine r_itemR (v := Value.ref _) (St.mo (by k_dflt assumption) (by k_dflt k_mem)) (by k_dflt decide) (by k_dflt decide) (by k_dflt rfl) ?_))
      | walk_at "gd")
  trivial
theorem reset_15 : True := by w_top off; trivial
section
variable {w : World} {mg mb : Str → Option Value} {h₀ h : Heap} {L : Addr} {m : Str → Option Value} {mu mu' : List (Addr × MO)} {fs : List (Value × PyData)} {A : Around} {E : Value → Shared → Prop} {g : Array GenState} {dr : Drawn} {os : OsState} {tk : Nat}
theorem c_told {j td : Addr} {a b : Tm} {t : Tok} {vp : Value} {Q : Value → Shared → Prop} (G : Gd (Mine.hd.heap_1 w.params) mg mb h) (R : Rm A 3) (J : Jud PySem.Challenge.rw_rh0006_01.row.prog w h j td a b true)
    (k : ∀ r h' tk', Le h h' → TD h' r (.tuple [a.d, b.d]) → Q r ⟨h', g, dr, tk', os⟩) :
    wpAny (model PySem.Challenge.rw_rh0006_01.row.prog w) A (call (.ref 183) [.ref j, .str (Str.ofString "t") t, vp]) Q E ⟨h, g, dr, tk, os⟩ := by
  obtain ⟨⟨dj, t1, t2, r, I⟩, tt⟩ := J
  obtain ⟨hns, pa, hsd, hpa⟩ := tt rfl
  refine enter [("self", .ref j), ("label", .str (Str.ofString "t") t), ("place", vp)] (cx0 G hpa) R (by k_is) (by k_is) rfl rfl (by rfl) ?_
  intro A' L h₁ tk₁ R₁ S
  repeat ((fail_if_success (with_reducible show wpAny _ _ (getAttr _ _ _) _ _ _)); walk1)
  walk_at "attr"
  rename St _ _ _ _ _ _ _ _ _ _ _ => S
  refine r_inSD (hsd.le S.cx.keep) hns rfl ?_
  intro t3
  rw [show (!(PySem.valueAt [(Str.ofString "t", Value.ref pa)] (Str.ofString "t")).isSome) = false from rfl]
  walk_at "go"
  rename St _ _ _ _ _ _ _ _ _ _ _ => S
  exact k _ _ _ S.cx.keep (S.td (by k_mem))
theorem c_sides_of {j td ls : Addr} {a b : Tm} {has : Bool} {vo vp : Value} {o : Pap} {Q : Value → Shared → Prop} (G : Gd (Mine.hd.heap_1 w.params) mg mb h) (R : Rm A 5) (J : Jud PySem.Challenge.rw_rh0006_01.row.prog w h j td a b has) (TO : TD h vo o.d) (LS : (MO.ld (o.parts.map fun q => wpr (sdF a b q))).Is PySem.Challenge.rw_rh0006_01.row.prog w h ls) (hw : well a b has o) (hz : o.parts.length < 1000)
    (k : ∀ r h' tk', Le h h' → TD h' r (wpr (sdF a b o)) → Q r ⟨h', g, dr, tk', os⟩) :
    wpAny (model PySem.Challenge.rw_rh0006_01.row.prog w) A (call (.ref 193) [.ref j, vo, vp, .ref ls]) Q E ⟨h, g, dr, tk, os⟩ := by
  obtain ⟨ao, rfl⟩ := PapRef TO
  have J' := J
  obtain ⟨⟨dj, t1, t2, r, I⟩, tt⟩ := J
  cases o with
  | same t =>
    rw [same_d] at TO
    refine enter [("self", .ref j), ("paper", .ref ao), ("path", vp), ("sides", .ref ls)] (cx0 G TO) R (by k_is) (by k_is) rfl rfl (by rfl) ?_
    intro A' L h₁ tk₁ R₁ S
    walk_at "go"
    rename St _ _ _ _ _ _ _ _ _ _ _ => S
    refine k _ _ _ S.cx.keep ?_
    rw [show sdF a b (.same t) = (t, t) by simp [sdF]]
    exact S.td (by k_mem)
  | told x =>
    rw [told_d] at TO
    simp only [well] at hw
    obtain ⟨rfl, rfl⟩ := hw
    refine enter [("self", .ref j), ("paper", .ref ao), ("path", vp), ("sides", .ref ls)] (cx0 G TO) R (by k_is) (by k_is) rfl rfl (by rfl) ?_
    intro A' L h₁ tk₁ R₁ S
    repeat ((fail_if_success (with_reducible show wpAny _ _ (getMethod _ _ _) _ _ _)); first
      | (with_reducible refine ite_true_iff ?_)
      | (with_reducible refine ite_is_true (by decide) ?_)
      | (with_reducible refine ite_is_false (by decide) ?_)
      | walk1)
    rename St _ _ _ _ _ _ _ _ _ _ _ => S
    refine r_gmI (f := 183) S (InstAt_le I S.cx.keep) (by k_is) (by k_is) (by k_is) (by rfl) ?_
    walk_at "go"
    rename St _ _ _ _ _ _ _ _ _ _ _ => S
    refine c_told (St.gdh S) (Rm.le R₁ (by decide)) (J'.le S.cx.keep) ?_
    intro r' h' tk' l T'
    walk_at "go"
    refine k _ _ _ (S.cx.keep.trans l) ?_
    rw [show sdF a b (.told (Str.ofString "t")) = (a, b) by simp [sdF]]
    exact T'
  | turn p =>
    rw [turn_d] at TO
    have LS' : (MO.ld [wpr (sdF a b p)]).Is PySem.Challenge.rw_rh0006_01.row.prog w h ls := LS
    refine enter [("self", .ref j), ("paper", .ref ao), ("path", vp), ("sides", .ref ls)] (cx0 G TO) R (by k_is) (by k_is) rfl rfl (by rfl) ?_
    intro A' L h₁ tk₁ R₁ S
    walk_at "go"
    rename St _ _ _ _ _ _ _ _ _ _ _ => S
    refine k _ _ _ S.cx.keep ?_
    rw [show sdF a b (.turn p) = ((sdF a b p).2, (sdF a b p).1) by simp [sdF]]
    exact S.td (by k_mem)
  | join p q =>
    rw [join_d] at TO
    simp only [well] at hw
    obtain ⟨_, _, he, hl⟩ := hw
    have LS' : (MO.ld [wpr (sdF a b p), wpr (sdF a b q)]).Is PySem.Challenge.rw_rh0006_01.row.prog w h ls := LS
    rw [show sdF a b (.join p q) = ((sdF a b p).1, (sdF a b q).2) by simp [sdF]] at k
    clear LS
    generalize sdF a b p = P at *
    generalize sdF a b q = P' at *
    obtain ⟨p1, p2⟩ := P
    obtain ⟨q1, q2⟩ := P'
    simp only at he hl
    subst he
    refine enter [("self", .ref j), ("paper", .ref ao), ("path", vp), ("sides", .ref ls)] (cx0 G TO) R (by k_is) (by k_is) rfl rfl (by rfl) ?_
    intro A' L h₁ tk₁ R₁ S
    walk_at "go"
    rename St _ _ _ _ _ _ _ _ _ _ _ => S
    refine r_neSame R₁ (d := p2.d) (S.td (by k_mem)) (S.td (by k_mem)) (hl.shaped (by decide)) ?_
    walk_at "go"
    rename St _ _ _ _ _ _ _ _ _ _ _ => S
    exact k _ _ _ S.cx.keep (S.td (by k_mem))
  | under op ks =>
    rw [under_d] at TO
    have LS' : (MO.ld (ks.map fun q => wpr (sdF a b q))).Is PySem.Challenge.rw_rh0006_01.row.prog w h ls := LS
    have hks : ks.length < 1000 := hz
    refine enter [("self", .ref j), ("paper", .ref ao), ("path", vp), ("sides", .ref ls)] (cx0 G TO) R (by k_is) (by k_is) rfl rfl (by rfl) ?_
    intro A' L h₁ tk₁ R₁ S
    walk_at "go"
    rename St _ _ _ _ _ _ _ _ _ _ _ => S
    refine r_iterLd S (LS'.le S.cx.keep) ?_
    intro I₁ h₂ tk₂ _ S
    refine r_ch (fun i => .ld ((ks.map fun q => (sdF a b q).1.d).take i)) (fun _ => []) S (self_list (muF := [])) (fun C => head_list (ds := ks.map fun q => wpr (sdF a b q)) R₁.hh rfl rfl) (.inl rfl) ?_ ?_ ?_
    · intro h₁ C D O i m h hi S; exact LS'.le (O.le.trans S.cx.keep)
    · rintro h₁ C D O i hi bb f m h tk ⟨v, d, hd, rfl, rfl⟩ S
      dsimp only [mB, List.cons_append, List.nil_append] at S
      have hi' : i < ks.length := by simpa using hi
      obtain ⟨q, hq, rfl⟩ : ∃ q, ks[i]? = some q ∧ wpr (sdF a b q) = d := by simpa using hd
      rw [take_next (x := (sdF a b q).1.d) (by rw [List.getElem?_map, hq]; rfl)]
      obtain ⟨bq, _, _, rfl, _⟩ := (S.td (.head _)).tup_inv
      walk_at "go"
      rename St _ _ _ _ _ _ _ _ _ _ _ => S
      exact Goes.of (S.facts (by walk_at "old"))
    · intro D h₆ tk₆ S
      dsimp only [List.cons_append, List.nil_append] at S
      rw [List.take_of_length_le (by simp)] at S
      walk_at "go"
      rename St _ _ _ _ _ _ _ _ _ _ _ => S
      refine r_iterLd S (LS'.le S.cx.keep) ?_
      intro I₁ h₂ tk₂ _ S
      refine r_ch (fun i => .ld ((ks.map fun q => (sdF a b q).2.d).take i)) (fun _ => []) S (self_list (muF := [])) (fun C => head_list (ds := ks.map fun q => wpr (sdF a b q)) R₁.hh rfl rfl) (.inl rfl) ?_ ?_ ?_
      · intro h₁ C D O i m h hi S; exact LS'.le (O.le.trans S.cx.keep)
      · rintro h₁ C D O i hi bb f m h tk ⟨v, d, hd, rfl, rfl⟩ S
        dsimp only [mB, List.cons_append, List.nil_append] at S
        have hi' : i < ks.length := by simpa using hi
        obtain ⟨q, hq, rfl⟩ : ∃ q, ks[i]? = some q ∧ wpr (sdF a b q) = d := by simpa using hd
        rw [take_next (x := (sdF a b q).2.d) (by rw [List.getElem?_map, hq]; rfl)]
        obtain ⟨bq, _, _, rfl, _⟩ := (S.td (.head _)).tup_inv
        walk_at "go"
        rename St _ _ _ _ _ _ _ _ _ _ _ => S
        exact Goes.of (S.facts (by walk_at "old"))
      · intro D h₆ tk₆ S
        dsimp only [List.cons_append, List.nil_append] at S
        rw [List.take_of_length_le (by simp)] at S
        walk_at "go"
        rename St _ _ _ _ _ _ _ _ _ _ _ => S
        refine k _ _ _ S.cx.keep ?_
        rw [show wpr (sdF a b (.under op ks)) = .tuple [.tuple ([.str op] ++ ks.map fun q => (sdF a b q).1.d), .tuple ([.str op] ++ ks.map fun q => (sdF a b q).2.d)] by rw [sdF_under]; simp [wpr, Tm.d, dT_map, Function.comp_def]]
        exact S.td (by k_mem)
end
theorem reset_16 : True := by w_top off; trivial
section
variable {w : World} {mg mb : Str → Option Value} {h₀ h : Heap} {L : Addr} {m : Str → Option Value} {mu mu' : List (Addr × MO)} {fs : List (Value × PyData)} {A : Around} {E : Value → Shared → Prop} {g : Array GenState} {dr : Drawn} {os : OsState} {tk : Nat}
theorem nd5 {a b c d e : Addr} (h : [a, b, c, d, e].Nodup) : [a, d, c, e, b].Nodup := by
  simp only [List.nodup_cons, List.mem_cons, List.not_mem_nil, or_false, not_or, not_false_eq_true, List.nodup_nil, and_true] at h ⊢
  obtain ⟨⟨a1, a2, a3, a4⟩, ⟨b1, b2, b3⟩, ⟨c1, c2⟩, e1⟩ := h
  exact ⟨⟨a3, a2, a4, a1⟩, ⟨Ne.symm c1, e1, Ne.symm b2⟩, ⟨c2, Ne.symm b1⟩, Ne.symm b3⟩
theorem nd_path {l : List (Path × Pap)} (nd : (l.map (·.1)).Nodup) {x y : Path × Pap} (hx : x ∈ l) (hy : y ∈ l) (e : x.1 = y.1) : x = y := by
  induction l with
  | nil => cases hx
  | cons a l ih =>
    rw [List.map_cons, List.nodup_cons] at nd
    rcases List.mem_cons.mp hx with h1 | h1
    · rcases List.mem_cons.mp hy with h2 | h2
      · rw [h1, h2]
      · exact absurd (List.mem_map.mpr ⟨y, h2, by rw [← e, h1]⟩) nd.1
    · rcases List.mem_cons.mp hy with h2 | h2
      · exact absurd (List.mem_map.mpr ⟨x, h1, by rw [e, h2]⟩) nd.1
      · exact ih nd.2 h1 h2
set_option maxHeartbeats 40000000 in
theorem c_sides {j td : Addr} {a b : Tm} {has : Bool} {vo : Value} {o : Pap} {Q : Value → Shared → Prop} (G : Gd (Mine.hd.heap_1 w.params) mg mb h) (R : Rm A 9) (J : Jud PySem.Challenge.rw_rh0006_01.row.prog w h j td a b has) (TO : TD h vo o.d) (hok : o.ok) (hz : o.size < 1000) (hw : well a b has o)
    (k : ∀ r h' tk', Le h h' → TD h' r (wpr (sdF a b o)) → Q r ⟨h', g, dr, tk', os⟩) :
    wpAny (model PySem.Challenge.rw_rh0006_01.row.prog w) A (call (.ref 198) [.ref j, vo]) Q E ⟨h, g, dr, tk, os⟩ := by
  have J' := J
  obtain ⟨⟨dj, t1, t2, r, I⟩, tt⟩ := J
  refine enterC [("self", .ref j), ("paper", vo)] (fun L => [("path", L+1+1), ("known", L+1)]) (fun L => [(L+1+1, .cellU), (L+1, .cellU)]) (fun y => if y = "paper" then some vo else if y = "self" then some (.ref j) else none) (cx0 G TO) R (by k_is) (by k_is) rfl (by rfl) (by decide) (fun L => rfl) (fun L => rfl) (by rfl) ?_
  intro A' L h₁ tk₁ R₁ S
  dsimp only [List.cons_append, List.nil_append] at S
  repeat ((fail_if_success (with_reducible show wpAny _ _ (eval (Expr.Dict [] [] _) _) _ _ _)); walk1)
  refine r_newKD S ?_
  clear S
  intro d h₂ tk₂ _ S
  repeat ((fail_if_success (with_reducible show wpAny _ _ (storeName _ _ _) _ _ _)); walk1)
  refine r_storeC (mu' := [(d, .kd []), (L+1+1, .cellU), (L+1, .cell (.ref d))]) S (by rfl) (.tail (.tail .head)) (.inl rfl) ?_
  clear S
  intro h₃ tk₃ S
  walk1
  refine wpAny_For ?_
  walk_at "go"
  refine c_in_order (St.gdh S) (Rm.le R₁ (by decide)) (S.td (by k_mem)) hok hz ?_
  intro l h₄ tk₄ l₄ hn hl
  have S := S.adopt l₄ hl hn
  refine r_iterLd S (S.mo (.head _)) ?_
  intro I₀ h₅ tk₅ _ S
  dsimp only [List.cons_append, List.nil_append] at S
  have S := (S.sub (mu' := lstCMo I₀ l (L+1+1) ((post [] o).map qp) 0 ++ [(d, .kd []), (L+1, .cell (.ref d)), (l, .ld ((post [] o).map qp))])
    (by walk_at "some")
    (by exact nd5 S.cx.nd)).bare
  have hgood := post_good _ [] o (Nat.le_refl _)
  have hnd := post_nd _ [] o (Nat.le_refl _)
  have hlen : (post [] o).length < 1000 := by rw [post_len]; exact hz
  have hall := post_mem (P := fun p => p.ok ∧ well a b has p ∧ p.size < 1000) (fun p hp q hq => ⟨Pap.ok_parts hp.1 q hq, well_parts hp.2.1 q hq, by have := mem_zP hq; have := p.size_parts; omega⟩) _ [] o (Nat.le_refl _) ⟨hok, hw, hz⟩
  have hlast := post_last [] o
  have hshort : ∀ x ∈ post [] o, x.1.length < 1000 := fun x hx => by have h1 := post_short _ [] o (Nat.le_refl _) x hx; have h2 := x.2.size_pos; simp only [List.length_nil] at h1; omega
  generalize post [] o = W at S hgood hnd hlen hall hlast hshort
  refine r_fl (head_pairsC (c := L+1+1) (ds := W.map qp) R₁.hh (by rfl) (by rfl) (by rfl) (by rfl) (fun d hd => by obtain ⟨x, _, rfl⟩ := List.mem_map.mp hd; exact ⟨_, _, rfl⟩))
    (fun i m mu fs => m "self" = some (.ref j) ∧ ∃ xs : List (Path × Addr × Value), xs.map (·.1) = (W.take i).map (·.1) ∧ (∀ q ka v, (q, ka, v) ∈ xs → ∃ x ∈ W.take i, x.1 = q ∧ (v, wpr (sdF a b x.2)) ∈ fs) ∧
      mu = [(d, .kd xs), (L+1, .cell (.ref d)), (l, .ld (W.map qp))]) ?_ ⟨rfl, [], by simp, (fun q ka v h => nomatch h), rfl⟩ S ?_ ?_
  · rintro i m mu fs h hi ⟨_, xs, _, _, rfl⟩ S; exact S.mo (.tail _ (.tail _ (.tail _ (.tail _ (.head _)))))
  · rintro i hi bb f m mu fs h tk ⟨v2, d1, d2, hd, rfl, rfl⟩ ⟨hm, xs, hxs, hrel, rfl⟩ S
    refine gen_F fun Qn hQn => ?_
    have hc : cellAt (W.map qp) (i + 1) = .cellD d1 := by simp only [cellAt, hd]
    dsimp only [mB, List.cons_append, List.nil_append] at S
    rw [hc] at S
    obtain ⟨⟨q, p⟩, hx, hxe⟩ : ∃ x, W[i]? = some x ∧ qp x = .tuple [d1, d2] := by rw [List.getElem?_map] at hd; simpa using hd
    obtain ⟨rfl, rfl⟩ : pt q = d1 ∧ p.d = d2 := by simpa [qp] using hxe
    obtain ⟨hpok, hpw, hpz⟩ : p.ok ∧ well a b has p ∧ p.size < 1000 := hall _ (List.mem_of_getElem? hx)
    have hi' : i < 1000 := by have := (List.getElem?_eq_some_iff.mp hx).1; omega
    have hql : q.length < 1000 := hshort _ (List.mem_of_getElem? hx)
    have hps : p.parts.length < 1000 := by have := len_zP p.parts; have := p.size_parts; omega
    have hu : A'.units + 1 < cLine := by have := R₁.un; omega
    have hndi : ((W.take i).map (·.1)).Nodup := (List.map_take (f := fun x : Path × Pap => x.1) ▸ hnd.sublist (List.take_sublist _ _))
    have hfind : ∀ (n : Nat) (part : Pap), p.parts[n]? = some part → ∃ ka v, atKey xs (q ++ [(n : Int)]) = some (ka, v) ∧ (v, wpr (sdF a b part)) ∈ fs := by
      intro n part hn
      have h1 := hgood i q p hx n part hn
      have h2 : q ++ [(n : Int)] ∈ xs.map (·.1) := by rw [hxs]; exact List.mem_map.mpr ⟨_, h1, rfl⟩
      obtain ⟨⟨q', ka, v⟩, hy, rfl⟩ := List.mem_map.mp h2
      obtain ⟨x, hx1, hx2, hx3⟩ := hrel _ _ _ hy
      have : x = (q ++ [(n : Int)], part) := nd_path hndi hx1 h1 hx2
      subst this
      exact ⟨ka, v, atKey_mem (by rw [hxs]; exact hndi) hy, hx3⟩
    have hnew : atKey xs q = none := atKey_none (by
      rw [hxs]
      intro hq
      have := hnd.sublist (List.take_sublist (i + 1) (W.map (·.1)))
      rw [← List.map_take, take_next hx, List.map_append] at this
      exact (List.nodup_append.mp this).2.2 q hq q (by simp) rfl)
    have hxl : xs.length < 1000 := by have := congrArg List.length hxs; simp at this; omega
    walk_at "go"
    rename St _ _ _ _ _ _ _ _ _ _ _ => S
    refine c_want (St.gdh S) (Rm.le R₁ (by decide)) (S.td (by k_mem)) hpok ?_
    intro h₆ tk₆ l₆
    have S := S.ext l₆
    show wpAny _ _ _ _ _ _
    repeat ((fail_if_success (with_reducible show wpAny _ _ (getMethod _ _ _) _ _ _)); walk1)
    rename St _ _ _ _ _ _ _ _ _ _ _ => S
    refine r_gmI (f := 193) S (InstAt_le I S.cx.keep) (by k_is) (by k_is) (by k_is) (by rfl) ?_
    walk_at "go"
    rename_i r9 u1 u2 u3 h₇ tk₇ S
    refine r_iterRng S (small_of (by decide) (by simp; omega) (.inl rfl)) (N := (p.parts.map Pap.d).length) rsize_up ?_
    clear S
    intro I₁ h₈ tk₈ S
    refine r_ch (fun n => .ld ((p.parts.map fun q => wpr (sdF a b q)).take n)) (fun _ => []) S (self_rng (muF := [])) (fun C => head_rng R₁.hh rfl rfl) (.inl rfl) ?_ ?_ ?_
    · intros; trivial
    · rintro h₁ C D O n hn bb f m h tk ⟨t9, rfl, rfl⟩ S
      dsimp only [mB, List.cons_append, List.nil_append] at S
      have hn' : n < p.parts.length := by simpa using hn
      obtain ⟨part, hpart⟩ : ∃ part, p.parts[n]? = some part := ⟨_, List.getElem?_eq_getElem hn'⟩
      obtain ⟨ka, v, hat, hmem⟩ := hfind n part hpart
      rw [take_next (x := wpr (sdF a b part)) (by rw [List.getElem?_map, hpart]; rfl)]
      repeat ((fail_if_success (with_reducible show wpAny _ _ (subscriptTail _ _ _ _) _ _ _)); walk1)
      rename St _ _ _ _ _ _ _ _ _ _ _ => S
      refine r_getK (p := q ++ [(n : Int)]) hu (O.at S (by k_mem)) (by have T := S.td (List.Mem.head _); rw [show pt (q ++ [(n : Int)]) = .tuple (q.map .int ++ [.int (0 + 1 * (n : Int))]) by simp [pt]]; exact T) hat ?_
      intro t3
      have S := S.fact (v := v) (d := wpr (sdF a b part)) (S.td (by repeat (first | exact hmem | apply List.Mem.tail)))
      walk_at "go"
      rename St _ _ _ _ _ _ _ _ _ _ _ => S
      exact Goes.of (S.facts (by walk_at "old"))
    · intro D h₆ tk₆ S
      dsimp only [List.cons_append, List.nil_append] at S
      rw [List.take_of_length_le (by simp)] at S
      walk_at "go"
      rename St _ _ _ _ _ _ _ _ _ _ _ => S
      refine c_sides_of (St.gdh S) (Rm.le R₁ (by decide)) (J'.le S.cx.keep) (S.td (by k_mem)) (S.mo (.head _)) hpw hps ?_
      intro r' h₉ tk₉ l₉ T'
      have S := (S.ext l₉).fact T'
      repeat ((fail_if_success (with_reducible show wpAny _ _ (setItem _ _ _) _ _ _)); walk1)
      rename St _ _ _ _ _ _ _ _ _ _ _ => S
      refine r_setK (p := q) hu S (by repeat (first | exact Up.head | apply Up.tail)) (S.td (by k_mem)) hnew ?_ (by simp [sizeLine]; omega)
      intro h₉ tk₉ S
      walk_at "go"
      rw [← hc] at S
      refine hQn _ ?_
      refine Hold.mk ⟨_, _, (r', wpr (sdF a b p)) :: fs, _, _, rfl, ⟨?_, xs ++ [(q, _, r')], ?_, ?_, rfl⟩, S.drop1.facts ?_⟩
      · exact hm
      · rw [take_next hx]; simp [hxs]
      · intro q' ka' v' h'
        rcases List.mem_append.mp h' with h' | h'
        · obtain ⟨x, h1, h2, h3⟩ := hrel _ _ _ h'
          exact ⟨x, by rw [take_next hx]; exact List.mem_append_left _ h1, h2, .tail _ h3⟩
        · simp only [List.mem_singleton, Prod.mk.injEq] at h'
          obtain ⟨rfl, rfl, rfl⟩ := h'
          exact ⟨(q', p), by rw [take_next hx]; simp, rfl, .head _⟩
      · intro x hx'
        rcases List.mem_cons.mp hx' with rfl | hx'
        · k_mem
        · repeat (first | exact hx' | apply List.Mem.tail)
  · rintro m mu fs h tk ⟨hm, xs, hxs, hrel, rfl⟩ S
    repeat ((fail_if_success (with_reducible show wpAny _ _ (subscriptTail _ _ _ _) _ _ _)); walk1)
    rename St _ _ _ _ _ _ _ _ _ _ _ => S
    rw [List.length_map, List.take_length] at hxs
    have h2 : ([] : Path) ∈ xs.map (·.1) := by rw [hxs]; exact List.mem_map.mpr ⟨_, hlast, rfl⟩
    obtain ⟨⟨q', ka, v⟩, hy, hq⟩ := List.mem_map.mp h2
    have hq : q' = [] := hq
    subst hq
    obtain ⟨x, hx1, hx2, hx3⟩ := hrel _ _ _ hy
    have : x = ([], o) := nd_path hnd (List.mem_of_mem_take hx1) hlast hx2
    subst this
    refine r_getK (p := []) (by have := R₁.un; omega) (S.mo (.head _)) (show TD _ _ (pt []) from S.td (.head _)) (atKey_mem (by rw [hxs]; exact hnd) hy) ?_
    intro t3
    walk_at "go"
    exact k v _ _ S.cx.keep (S.td (.tail _ hx3))
end
theorem reset_17 : True := by w_top off; trivial
local macro_rules | `(tactic| k_mem) => `(tactic| assumption)
section
variable {w : World} {mg mb : Str → Option Value} {h₀ h : Heap} {L : Addr} {m : Str → Option Value} {mu mu' : List (Addr × MO)} {fs : List (Value × PyData)} {A : Around} {E : Value → Shared → Prop} {g : Array GenState} {dr : Drawn} {os : OsState} {tk : Nat}
noncomputable def deepD (n : Nat) : PyData → PyData
  | .tuple (.tuple p :: r) => .tuple (.tuple (.int n :: p) :: r)
  | d => d
theorem flat_len {pp : List Pap} (h : ∀ p ∈ pp, (stF p).length < 1000) : ∀ n, ((pp.take n).flatMap fun p => (stF p).map sdt).length ≤ 1000 * n := by
  intro n
  induction n with
  | zero => simp
  | succ n ih =>
    rw [List.take_add_one, List.flatMap_append, List.length_append]
    cases hn : pp[n]? with
    | none => simp; simp at ih; omega
    | some p => have := h p (List.mem_of_getElem? hn); simp at ih ⊢; omega
theorem zz17 {p : Pap} (h : p.size < 1000) : ∀ part ∈ p.parts, (stF part).length < 1000 := fun part hp => by
  have h1 := stF_len part
  have h2 := mem_zP hp
  have h3 := p.size_parts
  omega
theorem fl17 {pp : List Pap} (hz : ∀ part ∈ pp, (stF part).length < 1000) (hl : pp.length < 1000) {n : Nat} (hn : n < pp.length) : ((pp.take n).flatMap fun p => (stF p).map sdt).length + ((stF (pp.getD n (.told ""))).map sdt).length ≤ sizeLine := by
  have h1 := flat_len hz n
  have h2 : (stF (pp.getD n (.told ""))).length < 1000 := hz _ (by rw [List.getD_eq_getElem?_getD, List.getElem?_eq_getElem hn]; exact List.getElem_mem hn)
  rw [List.length_map]
  have h3 : 1000 * n ≤ 1000 * 1000 := Nat.mul_le_mul_left _ (by omega)
  simp only [sizeLine]
  omega
theorem fin17 {prog : Program} {K : Frag} {I C d c2 l D : Addr} {a b c e y y' x : MO} {ρ ls : List (Addr × MO)} (S : St prog w K mg mb h₀ L m ((D, x) :: (d, y) :: ρ) fs h) (g1 : (I, a) ∈ ρ) (g2 : (C, b) ∈ ρ) (g3 : (c2, c) ∈ ρ) (g4 : (l, e) ∈ ρ) (g5 : ∀ z ∈ ls, z ∈ ρ)
    (nd : (((I, a) :: (C, b) :: (d, y') :: (c2, c) :: (l, e) :: ls).map (·.1)).Nodup) : St prog w K mg mb h₀ L m ((I, a) :: (C, b) :: (d, y) :: (c2, c) :: (l, e) :: (D, x) :: ls) [] h := by
  have hD : ∀ z : Addr × MO, z = (d, y) ∨ z ∈ ρ → z.1 ≠ D := fun z hz q => (List.nodup_cons.mp S.cx.nd).1 (List.mem_map.mpr ⟨z, by rcases hz with rfl | hz; exact .head _; exact .tail _ hz, q⟩)
  refine (S.sub (fun p hp => ?_) ?_).bare
  · simp only [List.mem_cons] at hp ⊢
    rcases hp with rfl | rfl | rfl | rfl | rfl | rfl | hp
    · exact .inr (.inr g1)
    · exact .inr (.inr g2)
    · exact .inr (.inl rfl)
    · exact .inr (.inr g3)
    · exact .inr (.inr g4)
    · exact .inl rfl
    · exact .inr (.inr (g5 _ hp))
  · have : ([(I, a), (C, b), (d, y), (c2, c), (l, e)] ++ (D, x) :: ls).Perm ((D, x) :: ([(I, a), (C, b), (d, y), (c2, c), (l, e)] ++ ls)) := List.perm_middle
    refine (this.map Prod.fst).nodup_iff.mpr (List.nodup_cons.mpr ⟨fun hm => ?_, nd⟩)
    obtain ⟨z, hz, q⟩ := List.mem_map.mp hm
    refine hD z ?_ q
    simp only [List.cons_append, List.nil_append, List.mem_cons] at hz
    rcases hz with rfl | rfl | rfl | rfl | rfl | hz
    · exact .inr g1
    · exact .inr g2
    · exact .inl rfl
    · exact .inr g3
    · exact .inr g4
    · exact .inr (g5 _ hz)
set_option maxHeartbeats 40000000 in
theorem c_of_paper {s j td : Addr} {a b : Tm} {has : Bool} {vo : Value} {o : Pap} {Q : Value → Shared → Prop} (G : Gd (Mine.hd.heap_1 w.params) mg mb h) (R : Rm A 12) (J : Jud PySem.Challenge.rw_rh0006_01.row.prog w h j td a b has) (IS : ∃ ds ts, W.InstAt h s (instObj 286 ds) 286 (some (dictOf [⟨PyData.keyHash w.params (Str.ofString "judge"), .str (Str.ofString "judge") ts, .ref j⟩] 1))) (TO : TD h vo o.d) (hok : o.ok) (hz : o.size < 1000) (hw : well a b has o)
    (k : ∀ l h' tk', Le h h' → h.get? l = none → (MO.ld ((stF o).map sdt)).Is PySem.Challenge.rw_rh0006_01.row.prog w h' l → Q (.ref l) ⟨h', g, dr, tk', os⟩) :
    wpAny (model PySem.Challenge.rw_rh0006_01.row.prog w) A (call (.ref 255) [.ref s, vo]) Q E ⟨h, g, dr, tk, os⟩ := by
  have J' := J
  obtain ⟨dsx, ts, I⟩ := IS
  refine enterC [("self", .ref s), ("paper", vo)] (fun L => [("path", L+1+1), ("known", L+1)]) (fun L => [(L+1+1, .cellU), (L+1, .cellU)]) (fun y => if y = "paper" then some vo else if y = "self" then some (.ref s) else none) (cx0 G TO) R (by k_is) (by k_is) rfl (by rfl) (by decide) (fun L => rfl) (fun L => rfl) (by rfl) ?_
  intro A' L h₁ tk₁ R₁ S
  dsimp only [List.cons_append, List.nil_append] at S
  repeat ((fail_if_success (with_reducible show wpAny _ _ (exec (Stmt.Expr _ _) _) _ _ _)); walk1)
  refine wpAny_Expr_any ?_
  repeat ((fail_if_success (with_reducible show wpAny _ _ (getAttr _ _ _) _ _ _)); walk1)
  walk_at "attr"
  obtain ⟨⟨dj, t1, t2, r, IJ⟩, tt⟩ := J
  rename St _ _ _ _ _ _ _ _ _ _ _ => S
  refine r_gmI (f := 198) S (InstAt_le IJ S.cx.keep) (by k_is) (by k_is) (by k_is) (by rfl) ?_
  walk_at "go"
  rename St _ _ _ _ _ _ _ _ _ _ _ => S
  refine c_sides (St.gdh S) (Rm.le R₁ (by decide)) (J'.le S.cx.keep) (S.td (by k_mem)) hok hz hw ?_
  intro rs h₂ tk₂ l₂ _
  have S := S.ext l₂
  repeat ((fail_if_success (with_reducible show wpAny _ _ (eval (Expr.Dict [] [] _) _) _ _ _)); walk1)
  rename St _ _ _ _ _ _ _ _ _ _ _ => S
  refine r_newKD S ?_
  clear S
  intro d h₂ tk₂ _ S
  repeat ((fail_if_success (with_reducible show wpAny _ _ (storeName _ _ _) _ _ _)); walk1)
  refine r_storeC (mu' := [(d, .kd []), (L+1+1, .cellU), (L+1, .cell (.ref d))]) S (by rfl) (.tail (.tail .head)) (.inl rfl) ?_
  clear S
  intro h₃ tk₃ S
  walk1
  refine wpAny_For ?_
  walk_at "go"
  refine c_in_order (St.gdh S) (Rm.le R₁ (by decide)) (S.td (by k_mem)) hok hz ?_
  intro l h₄ tk₄ l₄ hn hl
  have S := S.adopt l₄ hl hn
  refine r_iterLd S (S.mo (.head _)) ?_
  intro I₀ h₅ tk₅ _ S
  dsimp only [List.cons_append, List.nil_append] at S
  have S := (S.sub (mu' := lstCMo I₀ l (L+1+1) ((post [] o).map qp) 0 ++ [(d, .kd []), (L+1, .cell (.ref d)), (l, .ld ((post [] o).map qp))])
    (by walk_at "some")
    (by exact nd5 S.cx.nd)).bare
  have hgood := post_good _ [] o (Nat.le_refl _)
  have hnd := post_nd _ [] o (Nat.le_refl _)
  have hlen : (post [] o).length < 1000 := by rw [post_len]; exact hz
  have hall := post_mem (P := fun p => p.ok ∧ well a b has p ∧ p.size < 1000) (fun p hp q hq => ⟨Pap.ok_parts hp.1 q hq, well_parts hp.2.1 q hq, by have := mem_zP hq; have := p.size_parts; omega⟩) _ [] o (Nat.le_refl _) ⟨hok, hw, hz⟩
  have hlast := post_last [] o
  have hshort : ∀ x ∈ post [] o, x.1.length < 1000 := fun x hx => by have h1 := post_short _ [] o (Nat.le_refl _) x hx; have h2 := x.2.size_pos; simp only [List.length_nil] at h1; omega
  generalize post [] o = W at S hgood hnd hlen hall hlast hshort
  refine r_fl (head_pairsC (c := L+1+1) (ds := W.map qp) R₁.hh (by rfl) (by rfl) (by rfl) (by rfl) (fun d hd => by obtain ⟨x, _, rfl⟩ := List.mem_map.mp hd; exact ⟨_, _, rfl⟩))
    (fun i m mu fs => fs = [] ∧ ∃ (xs : List (Path × Addr × Value)) (ls : List (Addr × MO)), xs.map (·.1) = (W.take i).map (·.1) ∧ (∀ q ka v, (q, ka, v) ∈ xs → ∃ x ∈ W.take i, x.1 = q ∧ ∃ b, v = .ref b ∧ (b, MO.ld ((stF x.2).map sdt)) ∈ ls) ∧
      mu = (d, .kd xs) :: (L+1, .cell (.ref d)) :: (l, .ld (W.map qp)) :: ls) ?_ ⟨rfl, [], [], by simp, (fun q ka v h => nomatch h), rfl⟩ S ?_ ?_
  · rintro i m mu fs h hi ⟨_, xs, ls, _, _, rfl⟩ S; exact S.mo (.tail _ (.tail _ (.tail _ (.tail _ (.head _)))))
  · rintro i hi bb f m mu fs hT tk ⟨v2, d1, d2, hd, rfl, rfl⟩ ⟨rfl, xs, ls, hxs, hrel, rfl⟩ S
    have hc : cellAt (W.map qp) (i + 1) = .cellD d1 := by simp only [cellAt, hd]
    dsimp only [mB, List.cons_append, List.nil_append] at S
    rw [hc] at S
    obtain ⟨⟨q, p⟩, hx, hxe⟩ : ∃ x, W[i]? = some x ∧ qp x = .tuple [d1, d2] := by rw [List.getElem?_map] at hd; simpa using hd
    obtain ⟨rfl, rfl⟩ : pt q = d1 ∧ p.d = d2 := by simpa [qp] using hxe
    obtain ⟨hpok, hpw, hpz⟩ : p.ok ∧ well a b has p ∧ p.size < 1000 := hall _ (List.mem_of_getElem? hx)
    have hi' : i < 1000 := by have := (List.getElem?_eq_some_iff.mp hx).1; omega
    have hql : q.length < 1000 := hshort _ (List.mem_of_getElem? hx)
    have hps : p.parts.length < 1000 := by have := len_zP p.parts; have := p.size_parts; omega
    have hu : A'.units + 1 < cLine := by have := R₁.un; omega
    have hndi : ((W.take i).map (·.1)).Nodup := (List.map_take (f := fun x : Path × Pap => x.1) ▸ hnd.sublist (List.take_sublist _ _))
    have hfind : ∀ n, n < p.parts.length → ∃ b, (∃ ka part, p.parts[n]? = some part ∧ atKey xs (q ++ [(n : Int)]) = some (ka, .ref b) ∧ (b, MO.ld ((stF part).map sdt)) ∈ ls) := by
      intro n hn
      obtain ⟨part, hn⟩ : ∃ part, p.parts[n]? = some part := ⟨_, List.getElem?_eq_getElem hn⟩
      have h1 := hgood i q p hx n part hn
      have h2 : q ++ [(n : Int)] ∈ xs.map (·.1) := by rw [hxs]; exact List.mem_map.mpr ⟨_, h1, rfl⟩
      obtain ⟨⟨q', ka, v⟩, hy, rfl⟩ := List.mem_map.mp h2
      obtain ⟨x, hx1, hx2, b, rfl, hx3⟩ := hrel _ _ _ hy
      have : x = (q ++ [(n : Int)], part) := nd_path hndi hx1 h1 hx2
      subst this
      exact ⟨b, ka, part, hn, atKey_mem (by rw [hxs]; exact hndi) hy, hx3⟩
    obtain ⟨vs, hvl, hvs⟩ := choose_list _ hfind
    have hnew : atKey xs q = none := atKey_none (by
      rw [hxs]
      intro hq
      have := hnd.sublist (List.take_sublist (i + 1) (W.map (·.1)))
      rw [← List.map_take, take_next hx, List.map_append] at this
      exact (List.nodup_append.mp this).2.2 q hq q (by simp) rfl)
    have hxl : xs.length < 1000 := by have := congrArg List.length hxs; simp at this; omega
    have hnd0 := S.cx.nd
    refine gen_Q (P := fun Q => ∀ (D ka : Addr) h' tk' m', St PySem.Challenge.rw_rh0006_01.row.prog w (Mine.hd.heap_1 w.params) mg mb h L m' ((I₀, MO.itr "list_iterator" #[Value.ref l, Value.int ((i + 1 : Nat) : Int) 0]) :: (L+1+1, .cellD (pt q)) :: (d, .kd (xs ++ [(q, ka, .ref D)])) :: (L+1, .cell (.ref d)) :: (l, .ld (W.map qp)) :: (D, .ld ((stF p).map sdt)) :: ls) [] h' → Q .next ⟨h', g, dr, tk', os⟩) ?_ ?_
    · intro D ka h' tk' m' S'
      rw [← hc] at S'
      refine Hold.mk ⟨_, _, [], _, _, rfl, ⟨rfl, xs ++ [(q, ka, Value.ref D)], (D, MO.ld ((stF p).map sdt)) :: ls, ?_, ?_, rfl⟩, S'⟩
      · rw [take_next hx]; simp [hxs]
      · intro q' ka' v' h'
        rcases List.mem_append.mp h' with h' | h'
        · obtain ⟨x, h1, h2, b, h3, h4⟩ := hrel _ _ _ h'
          exact ⟨x, by rw [take_next hx]; exact List.mem_append_left _ h1, h2, b, h3, .tail _ h4⟩
        · simp only [List.mem_singleton, Prod.mk.injEq] at h'
          obtain ⟨rfl, rfl, rfl⟩ := h'
          exact ⟨(q', p), by rw [take_next hx]; simp, rfl, _, rfl, .head _⟩
    intro Q hQ
    repeat ((fail_if_success (with_reducible show wpAny _ _ (exec (Stmt.Assign _ _ _) _) _ _ _)); walk1)
    rename St _ _ _ _ _ _ _ _ _ _ _ => S
    refine r_compA S (by rfl) (by rfl) (by rfl) (by rfl) (by rfl) ?_
    walk_at "go"
    rename_i r9 u1 u2 u3 h₇ tk₇ S
    refine r_iterRng S (small_of (by decide) (by simp; omega) (.inl rfl)) (N := (p.parts.map Pap.d).length) rsize_up ?_
    clear S
    intro I₁ h₈ tk₈ S
    refine r_ch (fun n => .lst ((vs.map Value.ref).take n)) (fun _ => []) S (self_rng (muF := [])) (fun C => head_rng R₁.hh rfl rfl) (.inr rfl) ?_ ?_ ?_
    · intros; trivial
    · rintro h₁ C D O n hn bb f m h tk ⟨t9, rfl, rfl⟩ S
      dsimp only [mB, List.cons_append, List.nil_append] at S
      have hn' : n < vs.length := by rw [hvl]; simpa using hn
      obtain ⟨b, hb⟩ : ∃ b, vs[n]? = some b := ⟨_, List.getElem?_eq_getElem hn'⟩
      obtain ⟨ka, part, hpart, hat, hmem⟩ := hvs n b hb
      rw [take_next (x := Value.ref b) (by rw [List.getElem?_map, hb]; rfl)]
      repeat ((fail_if_success (with_reducible show wpAny _ _ (subscriptTail _ _ _ _) _ _ _)); walk1)
      rename St _ _ _ _ _ _ _ _ _ _ _ => S
      refine r_getK (p := q ++ [(n : Int)]) hu (O.at S (by k_mem)) (by have T := S.td (List.Mem.head _); rw [show pt (q ++ [(n : Int)]) = .tuple (q.map .int ++ [.int (0 + 1 * (n : Int))]) by simp [pt]]; exact T) hat ?_
      intro t3
      refine r_append S (by repeat (first | exact Up.head | apply Up.tail)) ?_ (by simp [sizeLine]; omega)
      intro h₉ tk₉ S
      exact Goes.of (S.facts (by walk_at "old"))
    · intro P h₆ tk₆ S
      dsimp only [List.cons_append, List.nil_append] at S
      rw [List.take_of_length_le (by simp [hvl])] at S
      obtain ⟨a1, rfl⟩ := PapRef (S.td (v := v2) (d := p.d) (by k_mem))
      clear hfind
      repeat ((fail_if_success (with_reducible show wpAny _ _ (exec (Stmt.If _ _ _ _) _) _ _ _)); walk1)
      rename St _ _ _ _ _ _ _ _ _ _ _ => S
      replace S := St.front (l := [_, _, _]) S
      replace S := S.facts (fs' := [(.ref a1, p.d)]) (by walk_at "some")
      refine St.gen (P := fun m ρ => m (Str.ofString "one") = some (.ref a1) ∧ m (Str.ofString "parts") = some (.ref P) ∧ (P, MO.lst (vs.map Value.ref)) ∈ ρ ∧ (I₀, MO.itr "list_iterator" #[Value.ref l, Value.int ((i + 1 : Nat) : Int) 0]) ∈ ρ ∧ (L+1+1, MO.cellD (pt q)) ∈ ρ ∧ (L+1, MO.cell (.ref d)) ∈ ρ ∧ (l, MO.ld (W.map qp)) ∈ ρ ∧ ∀ z ∈ ls, z ∈ ρ) S ⟨rfl, rfl, by k_mem, by k_mem, by k_mem, by k_mem, by k_mem, fun z hz => by repeat (first | exact hz | apply List.Mem.tail)⟩ ?_
      clear S
      rintro m₂ ρ ⟨f1, f2, g0, g1, g2, g3, g4, g5⟩ S
      by_cases hel : (∃ t, p = .same t) ∨ ∃ p' p'', p = .join p' p''
      · obtain ⟨kx, kr, hkd, hk1, hk2, hk3, hk4, hkl, hst⟩ : ∃ (kx : Str) (kr : List PyData), p.d = .tuple (.str kx :: kr) ∧ (kx == Str.ofString "told") = false ∧ (kx == Str.ofString "rule") = false ∧ (kx == Str.ofString "turn") = false ∧ (kx == Str.ofString "under") = false ∧ (PyData.str kx :: kr).length < 1000 ∧ (stF p).map sdt = p.parts.flatMap fun p => (stF p).map sdt := by
          rcases hel with ⟨t, rfl⟩ | ⟨p', p'', rfl⟩
          · exact ⟨_, _, same_d t, by decide, by decide, by decide, by decide, by simp, by simp [stF, Pap.parts]⟩
          · exact ⟨_, _, join_d p' p'', by decide, by decide, by decide, by decide, by simp, by simp [stF, Pap.parts]⟩
        clear hel
        replace S := S.fact (show TD _ (.ref a1) (.tuple (.str kx :: kr)) from hkd ▸ S.td (by k_mem))
        repeat ((fail_if_success (with_reducible show wpAny _ _ (compareOp _ _ _) _ _ _)); first | with_reducible refine ite_false_iff ?_ | walk_at "gd")
        walk1
        rw [hk1]
        repeat ((fail_if_success (with_reducible show wpAny _ _ (compareOp _ _ _) _ _ _)); first | with_reducible refine ite_false_iff ?_ | walk_at "gd")
        walk1
        rw [hk2]
        repeat ((fail_if_success (with_reducible show wpAny _ _ (compareOp _ _ _) _ _ _)); first | with_reducible refine ite_false_iff ?_ | walk_at "gd")
        walk1
        rw [hk3]
        repeat ((fail_if_success (with_reducible show wpAny _ _ (compareOp _ _ _) _ _ _)); first | with_reducible refine ite_false_iff ?_ | walk_at "gd")
        walk1
        rw [hk4]
        walk_at "gos"
        rename St _ _ _ _ _ _ _ _ _ _ _ => S
        refine r_iterList S (isL_raw (S.mo (show (P, MO.lst (vs.map Value.ref)) ∈ _ by k_mem))) ?_
        intro I₂ h₃ tk₃ _ S
        have hvl' : vs.length = p.parts.length := hvl
        have hvs' : ∀ (n : Nat) (b : Addr), vs[n]? = some b → ∃ part, p.parts[n]? = some part ∧ (b, MO.ld ((stF part).map sdt)) ∈ ls := fun n b hb => by obtain ⟨ka, part, h1, _, h2⟩ := hvs n b hb; exact ⟨part, h1, h2⟩
        have hzz : ∀ part ∈ p.parts, (stF part).length < 1000 := zz17 hpz
        have hll : p.parts.length < 1000 := hps
        generalize hPP : p.parts = pp at hvl' hvs' hzz hll hst
        refine r_ch2 (fun n => (pp.take n).flatMap fun p => (stF p).map sdt) (fun n => vs.getD n 0) (fun n => (stF (pp.getD n (.told ""))).map sdt) (fun _ d => d) (by simp) ?_ ?_ ?_ S (self_list (muF := [])) R₁.hh (fun C => head_raw (vs := vs.map Value.ref) R₁.hh rfl rfl) ?_ ?_ ?_ ?_
        · intro n hn
          have hn : n < pp.length := by rw [← hvl']; simpa using hn
          rw [List.take_add_one, List.flatMap_append, List.getElem?_eq_getElem hn]
          simp [List.getElem?_eq_getElem hn]
        · intro n hn
          have hn : n < pp.length := by rw [← hvl']; simpa using hn
          exact fl17 hzz hll hn
        · intro n hn
          have hn : n < vs.length := by simpa using hn
          obtain ⟨part, h1, h2⟩ := hvs' n _ (List.getElem?_eq_getElem hn)
          rw [List.getD_eq_getElem?_getD, List.getElem?_eq_getElem hn, List.getD_eq_getElem?_getD, h1]
          repeat (first | exact g5 _ h2 | apply List.Mem.tail)
        · intro h₁ C D O n m h hn S; exact isL_raw (O.at S (show (P, MO.lst (vs.map Value.ref)) ∈ _ by k_mem))
        · rintro n b f m hn ⟨v, hv, rfl, rfl⟩
          rw [List.getElem?_map] at hv
          cases hb : vs[n]? with
          | none => rw [hb] at hv; cases hv
          | some b => rw [hb] at hv; cases hv; simp [mB, List.getD_eq_getElem?_getD, hb]
        · rintro h₁ C O n hn b f m₀ m h tk v d mu' ⟨v', hv', rfl, rfl⟩ hd hy hzy S
          refine r_loc S hy ?_
          exact Hold.mk ⟨_, _, rfl, S⟩
        · intro D h₆ tk₆ S
          rw [List.length_map, hvl', List.take_length] at S
          walk_at "gos"
          rename St _ _ _ _ _ _ _ _ _ _ _ => S
          refine r_setK (p := q) hu S (by repeat (first | exact Up.head | apply Up.tail)) (S.td (by k_mem)) hnew ?_ (by simp [sizeLine]; omega)
          intro h₉ tk₉ S
          walk_at "gos"
          rw [← hst] at S
          exact hQ _ _ _ _ _ (fin17 S g1 g2 g3 g4 g5 hnd0)
      · cases p with
        | same t => exact absurd (.inl ⟨t, rfl⟩) hel
        | join p p' => exact absurd (.inr ⟨p, p', rfl⟩) hel
        | told x =>
          simp only [well] at hpw
          obtain ⟨rfl, rfl⟩ := hpw
          have S := S.fact (show TD _ (.ref a1) (.tuple [.str "told", .str "t"]) from told_d "t" ▸ S.td (by k_mem))
          walk_at "gos"
          rename St _ _ _ _ _ _ _ _ _ _ _ => S
          refine r_setK (p := q) hu S (by repeat (first | exact Up.head | apply Up.tail)) (S.td (by k_mem)) hnew ?_ (by simp [sizeLine]; omega)
          intro h₉ tk₉ S
          walk_at "gos"
          have eX := (show (stF (.told (Str.ofString "t"))).map sdt = [.tuple [.tuple [], .str (Str.ofString "told"), .str (Str.ofString "t"), .tuple [], .bool false]] by simp [stF])
          rw [← eX] at S
          exact hQ _ _ _ _ _ (fin17 S g1 g2 g3 g4 g5 hnd0)
        | turn p =>
          have S := S.fact (show TD _ (.ref a1) (.tuple [.str "turn", p.d]) from turn_d p ▸ S.td (by k_mem))
          obtain ⟨b0, rfl⟩ : ∃ b0, vs = [b0] := by
            match vs, hvl with
            | [b0], _ => exact ⟨b0, rfl⟩
          obtain ⟨ka, part, hpart, hat, hmem⟩ := hvs 0 b0 rfl
          obtain rfl : p = part := by simpa [Pap.parts] using hpart
          have hsl : (stF p).length < 1000 := by have h1 := stF_len p; simp only [Pap.size] at hpz; omega
          walk_at "gos"
          rename St _ _ _ _ _ _ _ _ _ _ _ => S
          refine r_rev S (S.mo (by repeat (first | exact g5 _ hmem | apply List.Mem.tail))) ?_
          intro I₂ h₃ tk₃ _ S
          refine (self_rev (muF := [])).iter S ?_
          refine r_ch (fun n => .ld ((((stF p).reverse.map fun x => (x.1, !x.2)).map sdt).take n)) (fun _ => []) S (self_rev (muF := [])) (fun C => head_rev (ds := (stF p).map sdt) R₁.hh rfl rfl) (.inl rfl) ?_ ?_ ?_
          · intro h₁ C D O n m h hn S; exact O.at S (by repeat (first | exact g5 _ hmem | apply List.Mem.tail))
          · rintro h₁ C D O n hn bf f m h tk ⟨v, d', hd, rfl, rfl⟩ S
            dsimp only [mB, List.cons_append, List.nil_append] at S
            have hn' : n < 1000 := by rw [List.length_map] at hn; omega
            obtain ⟨x, hx', rfl⟩ : ∃ x, (stF p).reverse[n]? = some x ∧ sdt x = d' := by rw [← List.map_reverse, List.getElem?_map] at hd; simpa using hd
            rw [take_next (l := List.map sdt _) (x := sdt (x.1, !x.2)) (by rw [List.getElem?_map, List.getElem?_map, hx']; rfl)]
            obtain ⟨bq, _, _, rfl, _⟩ := (S.td (.head _)).tup_inv
            walk_at "gos"
            rename St _ _ _ _ _ _ _ _ _ _ _ => S
            refine c_turned (St.gdh S) (Rm.le R₁ (by decide)) (S.td (by k_mem)) ?_
            intro rr h₇ tk₇ l₇ T'
            have S := (S.ext l₇).fact T'
            walk_at "gos"
            rename St _ _ _ _ _ _ _ _ _ _ _ => S
            exact Goes.of (S.facts (by walk_at "old"))
          · intro D h₆ tk₆ S
            dsimp only [List.cons_append, List.nil_append] at S
            rw [List.take_of_length_le (by simp)] at S
            walk_at "gos"
            rename St _ _ _ _ _ _ _ _ _ _ _ => S
            refine r_setK (p := q) hu S (by repeat (first | exact Up.head | apply Up.tail)) (S.td (by k_mem)) hnew ?_ (by simp [sizeLine]; omega)
            intro h₉ tk₉ S
            walk_at "gos"
            have eX := (show (stF (.turn p)).map sdt = ((stF p).reverse.map fun x => (x.1, !x.2)).map sdt by simp only [stF])
            rw [← eX] at S
            exact hQ _ _ _ _ _ (fin17 S g1 g2 g3 g4 g5 hnd0)
        | under op ks =>
          have S := S.fact (show TD _ (.ref a1) (.tuple [.str "under", .str op, .tuple (ks.map Pap.d)]) from under_d op ks ▸ S.td (by k_mem))
          walk_at "gos"
          rename St _ _ _ _ _ _ _ _ _ _ _ => S
          refine r_enumL S (isL_raw (S.mo (show (P, MO.lst (vs.map Value.ref)) ∈ _ by k_mem))) ?_
          intro e₂ it₂ h₃ tk₃ _ S
          refine (self_enuL (muF := [])).iter S ?_
          have hvl' : vs.length = (ks : List Pap).length := hvl
          have hvs' : ∀ (n : Nat) (b : Addr), vs[n]? = some b → ∃ part, (ks : List Pap)[n]? = some part ∧ (b, MO.ld ((stF part).map sdt)) ∈ ls := fun n b hb => by obtain ⟨ka, part, h1, _, h2⟩ := hvs n b hb; exact ⟨part, h1, h2⟩
          have hzz : ∀ part ∈ (ks : List Pap), (stF part).length < 1000 := zz17 (p := .under op ks) hpz
          have hll : (ks : List Pap).length < 1000 := hps
          have hzp : zP (ks : List Pap) < 1000 := by have h3 := Pap.size_parts (Pap.under op ks); have h4 : zP (ks : List Pap) = zP (Pap.under op ks).parts := rfl; omega
          have hsh : ∀ part ∈ (ks : List Pap), ∀ x ∈ stF part, x.1.length < 1000 := fun part hp x hx => by have h1 := stF_short part x hx; have h2 := mem_zP (l := ks) hp; omega
          generalize hPP : (ks : List Pap) = pp at hvl' hvs' hzz hll hzp hsh
          refine r_ch2 (fun n => (stL 0 (pp.take n)).map sdt) (fun n => vs.getD n 0) (fun n => (stF (pp.getD n (.told ""))).map sdt) deepD (by simp [stL]) ?_ ?_ ?_ S (self_enuL (muF := [])) R₁.hh (fun C => head_enumRaw (vs := vs.map Value.ref) R₁.hh rfl rfl rfl) ?_ ?_ ?_ ?_
          · intro n hn
            have hn : n < pp.length := by rw [← hvl']; simpa using hn
            rw [stL_next (List.getElem?_eq_getElem hn), List.map_append, List.map_map]
            congr 1
            simp only [List.getD_eq_getElem?_getD, List.getElem?_eq_getElem hn, Option.getD_some, List.map_map]
            exact List.map_congr_left fun x _ => rfl
          · intro n hn
            have hn : n < pp.length := by rw [← hvl']; simpa using hn
            have h1 : ((stL 0 (pp.take n)).map sdt).length ≤ 1000 := by
              rw [List.length_map]
              have h1 := stL_len 0 (pp.take n)
              have h2 := zP_append (pp.take n) (pp.drop n)
              rw [List.take_append_drop] at h2
              omega
            have h2 : (stF (pp.getD n (.told ""))).length < 1000 := hzz _ (by rw [List.getD_eq_getElem?_getD, List.getElem?_eq_getElem hn]; exact List.getElem_mem hn)
            have h4 : ((stF (pp.getD n (.told ""))).map sdt).length < 1000 := by rw [List.length_map]; exact h2
            show ((stL 0 (pp.take n)).map sdt).length + ((stF (pp.getD n (.told ""))).map sdt).length ≤ sizeLine
            simp only [sizeLine]
            omega
          · intro n hn
            have hn : n < vs.length := by simpa using hn
            obtain ⟨part, h1, h2⟩ := hvs' n _ (List.getElem?_eq_getElem hn)
            rw [List.getD_eq_getElem?_getD, List.getElem?_eq_getElem hn, List.getD_eq_getElem?_getD, h1]
            repeat (first | exact g5 _ h2 | apply List.Mem.tail)
          · intro h₁ C D O n m h hn S; exact isL_raw (O.at S (show (P, MO.lst (vs.map Value.ref)) ∈ _ by k_mem))
          · rintro n b f m hn ⟨t9, v, hv, rfl, rfl⟩
            rw [List.getElem?_map] at hv
            cases hb : vs[n]? with
            | none => rw [hb] at hv; cases hv
            | some b => rw [hb] at hv; cases hv; simp [mB, List.getD_eq_getElem?_getD, hb]
          · rintro h₁ C O n hn b f m₀ m h tk v d mu' ⟨t9, v', hv', rfl, rfl⟩ hd hy hzy S
            have hn : n < pp.length := by rw [← hvl']; simpa using hn
            have hk : m (Str.ofString "k") = some (.int n t9) := by rw [hzy _ (by decide)]; rfl
            obtain ⟨x, hx1, rfl⟩ := List.mem_map.mp hd
            rw [List.getD_eq_getElem?_getD, List.getElem?_eq_getElem hn, Option.getD_some] at hx1
            have hxl2 := hsh _ (List.getElem_mem hn) x hx1
            obtain ⟨bq, _, _, rfl, _⟩ := (S.td (.head _)).tup_inv
            walk_at "gos"
            rename St _ _ _ _ _ _ _ _ _ _ _ => S
            refine c_deeper (p := x.1.map .int) (St.gdh S) (Rm.le R₁ (by decide)) (S.td (.head _)) (by rw [List.length_map]; exact hxl2) ?_
            intro rr h₇ tk₇ l₇ T'
            have S := (S.ext l₇).fact T'
            exact Hold.mk ⟨_, _, rfl, S.facts (by intro y hy'; rcases List.mem_cons.mp hy' with rfl | hy'; exact .head _; exact .tail _ (.tail _ hy'))⟩
          · intro D h₆ tk₆ S
            rw [List.length_map, hvl', List.take_length] at S
            walk_at "gos"
            rename St _ _ _ _ _ _ _ _ _ _ _ => S
            refine r_setK (p := q) hu S (by repeat (first | exact Up.head | apply Up.tail)) (S.td (by k_mem)) hnew ?_ (by simp [sizeLine]; omega)
            intro h₉ tk₉ S
            walk_at "gos"
            have eX := (show (stF (.under op ks)).map sdt = (stL 0 pp).map sdt by rw [← hPP]; simp only [stF])
            rw [← eX] at S
            exact hQ _ _ _ _ _ (fin17 S g1 g2 g3 g4 g5 hnd0)
  · rintro m mu fs h tk ⟨rfl, xs, ls, hxs, hrel, rfl⟩ S
    repeat ((fail_if_success (with_reducible show wpAny _ _ (subscriptTail _ _ _ _) _ _ _)); walk1)
    rename St _ _ _ _ _ _ _ _ _ _ _ => S
    rw [List.length_map, List.take_length] at hxs
    have h2 : ([] : Path) ∈ xs.map (·.1) := by rw [hxs]; exact List.mem_map.mpr ⟨_, hlast, rfl⟩
    obtain ⟨⟨q', ka, v⟩, hy, hq⟩ := List.mem_map.mp h2
    have hq : q' = [] := hq
    subst hq
    obtain ⟨x, hx1, hx2, b, rfl, hx3⟩ := hrel _ _ _ hy
    have : x = ([], o) := nd_path hnd (List.mem_of_mem_take hx1) hlast hx2
    subst this
    refine r_getK (p := []) (by have := R₁.un; omega) (S.mo (.head _)) (show TD _ _ (pt []) from S.td (.head _)) (atKey_mem (by rw [hxs]; exact hnd) hy) ?_
    intro t3
    walk_at "go"
    refine k b _ _ S.cx.keep (S.cx.mus _ (.tail _ (.tail _ (.tail _ hx3)))).2 (S.mo (.tail _ (.tail _ (.tail _ hx3))))
end
section
variable {prog : Program} {w : World} {K : Frag} {mg mb : Str → Option Value} {h₀ h h' : Heap} {L : Addr} {m m' : Str → Option Value} {mu mu' mu₁ mu₂ : List (Addr × MO)} {fs fs' : List (Value × PyData)}
  {A : Around} {E : Value → Shared → Prop} {g : Array GenState} {dr : Drawn} {os : OsState} {tk : Nat} {env : Env}
theorem instJ {j dj rd td : Addr} {t1 t2 : Tok} (S : St prog w K mg mb h₀ L m mu fs h) (h1 : (j, .obj (instObj 208 dj)) ∈ mu) (h2 : (dj, .obj (dictOf (jes w rd td t1 t2) 2)) ∈ mu) : W.InstAt h j (instObj 208 dj) 208 (some (dictOf (jes w rd td t1 t2) 2)) :=
  ⟨(S.mo h1).1, rfl, rfl, (S.mo h2).1⟩
theorem instS {j dj jj : Addr} {t1 : Tok} (S : St prog w K mg mb h₀ L m mu fs h) (h1 : (j, .obj (instObj 286 dj)) ∈ mu) (h2 : (dj, .obj (dictOf (ses w jj t1) 1)) ∈ mu) : W.InstAt h j (instObj 286 dj) 286 (some (dictOf (ses w jj t1) 1)) :=
  ⟨(S.mo h1).1, rfl, rfl, (S.mo h2).1⟩
theorem judOf {j dj rd td : Addr} {t1 t2 : Tok} {kv : List (Str × Value)} {pv : Value} {pd : PyData} {tl tr : Tm} {has : Bool} (S : St prog w K mg mb h₀ L m mu fs h) (h1 : (j, .obj (instObj 208 dj)) ∈ mu) (h2 : (dj, .obj (dictOf (jes w rd td t1 t2) 2)) ∈ mu)
    (h3 : (td, .sd kv) ∈ mu) (h4 : (pv, pd) ∈ fs) (hk : has = true → (td == sysModules) = false ∧ ∃ pa, kv = [(Str.ofString "t", .ref pa)] ∧ pv = .ref pa ∧ pd = .tuple [tl.d, tr.d]) : Jud prog w h j td tl tr has :=
  ⟨⟨dj, t1, t2, rd, instJ S h1 h2⟩, fun hh => by obtain ⟨a, pa, rfl, rfl, rfl⟩ := hk hh; exact ⟨a, pa, S.mo h3, S.td h4⟩⟩
end
theorem Pap.d_len (q : Pap) : ∀ es, q.d = .tuple es → es.length ≤ 3 := by
  intro es h
  cases q <;> simp only [Pap.d, PyData.tuple.injEq] at h <;> subst h <;> simp
set_option maxHeartbeats 0 in
theorem law_holds : PySem.Challenge.rw_rh0006_01.Holds := by
  w_top off
  refine Mine.hd ?_
  k_go0
  rename_i h₁ tk₁ F oc hoc N0 X0
  rename World => w'
  rename Shared => s₁
  rename Frag.In _ _ => Kin
  rename Top _ _ _ _ _ _ => T₁
  rename IntsAre _ _ => hI₁
  rename Heap.IsList _ _ _ => hL₁
  rename Shared.gens _ = #[] => hgens
  have G₁ : Gd _ _ _ _ := ⟨Kin, T₁.g, T₁.b, T₁.builtins, T₁.nolimit⟩
  refine wpAny_mono (Q := fun fl s' => fl = .ret (.bool true) ∧ Le s₁.heap s'.heap ∧ s'.os = s₁.os ∧ s'.gens = s₁.gens) (E := noE) ?_ ?_ ?_
  rotate_left
  · rintro fl s' ⟨rfl, hle, hos, hge⟩
    clear hoc N0 X0 F
    exact ⟨.inl ⟨.bool true, .bool true, [], rfl, fun _ => rfl, .bool _, by kernel_rfl, fun _ => ⟨.nil, fun _ h => nomatch h⟩⟩, hle, hos, by rw [hge, hgens]⟩
  · intro e s' he
    exact he.elim
  clear X0
  have hcell : (MO.cellU).Is PySem.Challenge.rw_rh0006_01.row.prog w' h₁ (s₁.heap.objs.size + 1) := ⟨_, oc, (N0 _ (.head _)).1, hoc⟩
  have S := St.mk (prog := PySem.Challenge.rw_rh0006_01.row.prog) (w := w') (mu := [(s₁.heap.objs.size + 1, .cellU)]) (fs := []) ⟨G₁, F.keep, fun p hp => by rw [List.mem_singleton.mp hp]; exact ⟨hcell, (N0 _ (.head _)).2.2⟩, by simp, fun p hp => nomatch hp⟩ F.ns (Le.none_of_size (Le.refl _)) (fun p hp => by rw [List.mem_singleton.mp hp]; exact (N0 _ (.head _)).2.1)
  have R₁ : Rm (callerA) 60 := ⟨rfl, by decide, by decide⟩
  clear hoc N0 F hcell
  repeat ((fail_if_success (with_reducible show wpAny _ _ (eval (Expr.Dict _ _ _) _) _ _ _)); walk1)
  rename ¬ (_ < _) => hlen₁
  obtain ⟨mg₀, mb₀, m₀, l₀, vs₀, ns₀, hl₀, hi₀, hlen₀, hm₀, S'⟩ : ∃ (mg₀ mb₀ m₀ : Str → Option Value) (l₀ : Addr) (vs₀ : List Value) (ns₀ : List Int), s₁.heap.IsList l₀ vs₀.toArray ∧ IntsAre vs₀ ns₀ ∧ ns₀.length ≤ 63 ∧ m₀ (Str.ofString "script") = some (.ref l₀) ∧ St PySem.Challenge.rw_rh0006_01.row.prog w' (Mine.hd.heap_1 w'.params) mg₀ mb₀ s₁.heap s₁.heap.objs.size m₀ [(s₁.heap.objs.size + 1, .cellU)] [] h₁ :=
    ⟨_, _, _, _, _, _, hL₁, hI₁, by omega, rfl, S⟩
  clear S hlen₁ hL₁ hI₁ G₁
  rename St _ _ _ _ _ _ _ _ _ _ _ => S
  try (rename Dflts _ _ _ _ _ _ => zz; clear zz)
  try (rename Below _ _ _ _ => zz; clear zz)
  try (rename Heap.CodeRec _ _ _ => zz; clear zz)
  repeat (rename ReadsAllW _ _ _ _ _ _ => zz; clear zz)
  repeat (rename Reads _ _ _ _ => zz; clear zz)
  repeat (rename Well _ _ _ _ => zz; clear zz)
  repeat (rename ReadsAll _ _ _ _ => zz; clear zz)
  repeat (rename BMod _ _ _ _ _ => zz; clear zz)
  repeat (rename TopW _ _ _ => zz; clear zz)
  repeat (rename TopE _ _ _ _ => zz; clear zz)
  repeat (rename Tables _ _ _ _ => zz; clear zz)
  repeat (rename Glob _ _ _ _ _ _ _ _ => zz; clear zz)
  repeat (rename LooseAre _ _ _ => zz; clear zz)
  repeat (rename Flt.MathXP _ _ _ => zz; clear zz)
  repeat (rename Ground _ _ _ _ _ _ _ _ _ => zz; clear zz)
  repeat (rename _ = true => zz; clear zz)
  clear T₁ Kin
  w_top off
  generalize hA : Around.deeper callerA _ = A'
  have R₂ : Rm A' 59 := hA ▸ R₁.deeper _
  clear hA R₁
  rename Rm A' 59 => R₁
  refine r_dict2 (by decide) S ?_
  clear S
  intro fd h₂ tk₂ S
  refine r_comp S (by rfl) (by rfl) (by rfl) (by rfl) ?_
  repeat ((fail_if_success (with_reducible show wpAny _ _ (subscriptTail _ _ _ _) _ _ _)); walk1)
  refine r_slL (b := 40) S (by obtain ⟨o, e, r⟩ := hl₀; exact ⟨o, S.cx.keep _ _ e, r⟩) hi₀ ?_ (by rw [IntsAre.length hi₀]; simp only [sizeLine]; omega)
  clear S
  intro ls h₃ tk₃ l₃ S
  clear l₃
  refine r_iterLd S (S.mo (.head _)) ?_
  clear S
  intro I₀ h₄ tk₄ l₄ S
  clear l₄
  dsimp only [List.cons_append, List.nil_append] at S
  have hn40 : (ns₀.take 40).length ≤ 40 := by rw [List.length_take]; omega
  generalize ns₀.take 40 = ns at S hn40
  refine r_ch (fun n => .ld ((ns.take n).map fun x => .int (x.fmod 1000003))) (fun _ => [(ls, .ld (ns.map .int))]) S (self_list (muF := _)) (fun C => head_list (ds := ns.map .int) R₁.hh rfl rfl) (.inl rfl) ?_ ?_ ?_
  · intro h₁ C D O i m h hi S; exact S.mo (.tail _ (.tail _ (.head _)))
  · rintro h₁ C D O n hn bb f m h tk ⟨v, d, hd, rfl, rfl⟩ S
    dsimp only [mB, List.cons_append, List.nil_append] at S
    rw [List.getElem?_map] at hd
    obtain ⟨x, hx, rfl⟩ : ∃ x, ns[n]? = some x ∧ PyData.int x = d := by simpa using hd
    rw [take_next hx, List.map_append]
    obtain ⟨tx, rfl⟩ := (S.td (.head _)).int_inv
    walk_at "go"
    rename St _ _ _ _ _ _ _ _ _ _ _ => S
    exact Goes.of (S.facts (by walk_at "old"))
  · clear S
    intro rl h₅ tk₅ S
    dsimp only [List.cons_append, List.nil_append] at S
    rw [List.length_map, List.take_length, show (fun x : Int => PyData.int (x.fmod 1000003)) = PyData.int ∘ fun x => x.fmod 1000003 from rfl, ← List.map_map] at S
    have hrow : (ns.map fun x => x.fmod 1000003).length < 1000 := by rw [List.length_map]; omega
    generalize (ns.map fun x => x.fmod 1000003) = row at S hrow
    replace S := S.sub (mu' := [(fd, .sd []), (s₁.heap.objs.size + 1, .cellU), (rl, .ld (row.map .int))]) (by walk_at "some")
      (by have := S.cx.nd; simp only [List.map_cons, List.map_nil, List.nodup_cons, List.mem_cons, List.not_mem_nil, or_false, not_or, List.nodup_nil] at this ⊢; exact ⟨⟨this.2.2.1, fun h => this.1.2.1 h.symm⟩, fun h => this.1.2.2 h.symm, by simp, trivial⟩)
    refine Hold.mk ⟨_, _, _, _, _, rfl, S, ?_⟩
    intro tk₆
    walk1
    refine Hold.mk ⟨_, _, _, _, _, rfl, S, ?_⟩
    clear S
    intro h₇ tk₇ S
    replace S := S.weak (mu' := [(fd, .feed rl 0), (s₁.heap.objs.size + 1, .cellU), (rl, .ld (row.map .int))])
      (by
        intro p hp
        rcases List.mem_cons.mp hp with rfl | hp
        · exact ⟨⟨0, _, Int.le_refl _, Int.le_refl _, S.mo (.head _)⟩, _, .head _⟩
        · exact ⟨S.mo (.tail _ hp), _, .tail _ hp⟩)
      S.cx.nd
    repeat ((fail_if_success (with_reducible show wpAny _ _ (exec (Stmt.For _ _ _ _ _) _) _ _ _)); walk1)
    refine wpAny_For ?_
    repeat ((fail_if_success (with_reducible show wpAny _ _ (pyIter _) _ _ _)); walk1)
    rename St _ _ _ _ _ _ _ _ _ _ _ => S
    refine r_iterRng S (small_of (by decide) (by omega) (.inl rfl)) (N := 2) (by decide) ?_
    clear S
    intro I₁ h₈ tk₈ S
    refine r_fl (head_rng R₁.hh (by rfl) (by rfl)) (fun i m mu fs => fs = [] ∧ m (Str.ofString "feed") = some (.ref fd) ∧ mu = [(fd, .feed rl (60 * i)), (s₁.heap.objs.size + 1, .cellU), (rl, .ld (row.map .int))]) ?_ ⟨rfl, rfl, rfl⟩ S ?_ ?_
    · intros; trivial
    · clear S
      rintro i hi bb f m mu fs h tk ⟨t9, rfl, rfl⟩ ⟨rfl, hfeed, rfl⟩ S
      dsimp only [mB, List.cons_append, List.nil_append] at S
      obtain ⟨β, hβ⟩ : ∃ β : Int, β = 60 * (i : Int) := ⟨_, rfl⟩
      rw [← hβ] at S
      obtain ⟨m₁, hm, S'⟩ : ∃ m₁ : Str → Option Value, m₁ (Str.ofString "feed") = some (.ref fd) ∧ St PySem.Challenge.rw_rh0006_01.row.prog w' _ _ _ s₁.heap s₁.heap.objs.size m₁ [(I₁, MO.obj (rngObj (0 + 1 * ((i + 1 : Nat) : Int)) (((2 : Nat) : Int) - ((i + 1 : Nat) : Int)) 1)), (fd, MO.feed rl β), (s₁.heap.objs.size + 1, MO.cellU), (rl, MO.ld (List.map PyData.int row))] [] h := by
        refine ⟨_, ?_, S⟩
        exact hfeed
      clear S hfeed hm₀
      rename St _ _ _ _ _ _ _ _ _ _ _ => S
      clear m₀ hl₀ hi₀ hlen₀
      have hb0 : β + 60 < 1000 := by omega
      have hnd0 : [I₁, fd, s₁.heap.objs.size + 1, rl].Nodup := S.cx.nd
      have hrf : rl ≠ fd := by
        have := S.cx.nd
        simp only [List.map_cons, List.map_nil, List.nodup_cons, List.mem_cons, List.not_mem_nil, or_false, not_or] at this
        exact fun h => this.2.1.2 h.symm
      have hbi : β + 45 ≤ 60 * ((i + 1 : Nat) : Int) := by omega
      refine gen_Q (P := fun Q => ∀ m' h' tk', m' (Str.ofString "feed") = some (.ref fd) → St PySem.Challenge.rw_rh0006_01.row.prog w' (Mine.hd.heap_1 w'.params) mg₀ mb₀ s₁.heap s₁.heap.objs.size m' [(I₁, MO.obj (rngObj (0 + 1 * ((i + 1 : Nat) : Int)) (((2 : Nat) : Int) - ((i + 1 : Nat) : Int)) 1)), (fd, .feed rl (60 * ((i + 1 : Nat) : Int))), (s₁.heap.objs.size + 1, .cellU), (rl, .ld (row.map .int))] [] h' → Q .next ⟨h', s₁.gens, s₁.drawn, tk', s₁.os⟩) (fun m' h' tk' a b => Hold.mk ⟨_, _, _, _, _, rfl, ⟨rfl, a, rfl⟩, b⟩) ?_
      intro Q hQ
      clear hβ hi
      w_top off
      have h40 : ((pk 3 : Nat) : Int) = 40 := by rfl
      repeat ((fail_if_success (with_reducible show wpAny _ _ (call (Value.ref 302) _) _ _ _)); walk1)
      rename St _ _ _ _ _ _ _ _ _ _ _ => S
      refine c_lterm 3 S (by repeat (first | exact Up.head | apply Up.tail)) (S.mo (by k_mem)) hrf (Rm.le R₁ (by decide)) (by omega) hrow ?_
      clear S
      intro ta t h₂ tk₂ hfit hsz S
      rw [h40] at S
      have hsz : t.size ≤ 40 := hsz
      repeat ((fail_if_success (with_reducible show wpAny _ _ (call (Value.ref 307) _) _ _ _)); walk1)
      rename St _ _ _ _ _ _ _ _ _ _ _ => S
      refine c_lparts 4 (St.gdh S) (Rm.le R₁ (by decide)) (S.td (by k_mem)) hfit (by omega) ?_
      intro pl h₃ tk₃ l₃ hn₃ hl₃
      replace S := S.adopt l₃ hl₃ hn₃
      clear l₃ hn₃ hl₃
      have hpl : ((pcs t).map qt).length = t.size := by rw [List.length_map, pcs_len]
      have hzp := t.size_pos
      repeat ((fail_if_success (with_reducible show wpAny _ _ (call (Value.ref 297) _) _ _ _)); walk1)
      rename St _ _ _ _ _ _ _ _ _ _ _ => S
      refine c_pick S (by repeat (first | exact Up.head | apply Up.tail)) (S.mo (by k_mem)) hrf (Rm.le R₁ (by decide)) (by omega) (by omega) hrow ?_
      clear S
      intro x9 tx9 h₄ tk₄ hx0 hx1 S
      repeat ((fail_if_success (with_reducible show wpAny _ _ (subscriptTail _ _ _ _) _ _ _)); walk1)
      have hix : ((((pcs t).map qt).length : Int) - 1 - x9).toNat < (pcs t).length := by rw [List.length_map] at hpl ⊢; omega
      obtain ⟨⟨p, u⟩, hpu⟩ : ∃ x, (pcs t)[((((pcs t).map qt).length : Int) - 1 - x9).toNat]? = some x := ⟨_, List.getElem?_eq_getElem hix⟩
      have hat : t.at p = some u := pcs_at _ (Nat.le_refl _) (List.mem_of_getElem? hpu)
      have hlp : p.length < 4 := pcs_high 4 hfit (List.mem_of_getElem? hpu)
      have hfu : u.fit 4 := hfit.at hat
      have htz : t.size < 1000 := Nat.lt_of_le_of_lt hsz (by decide)
      have hp1k : p.length < 1000 := Nat.lt_trans hlp (by decide)
      have h760 : 7 + 2 * p.length ≤ 60 := by omega
      have h459 : p.length + 4 ≤ 59 := by omega
      rename St _ _ _ _ _ _ _ _ _ _ _ => S
      refine r_itemLT S (S.mo (.head _)) (es := [pt p, u.d]) (by omega) (by omega) (by rw [List.getElem?_map, hpu]; rfl) ?_
      clear S hpu hix
      intro b9 S
      repeat ((fail_if_success (with_reducible show wpAny _ _ (call (Value.ref 319) _) _ _ _)); walk1)
      rename St _ _ _ _ _ _ _ _ _ _ _ => S
      refine c_lpaper S (by repeat (first | exact Up.head | apply Up.tail)) (S.mo (by k_mem)) hrf (Rm.le R₁ (by decide)) (by omega) hrow (S.td (by k_mem)) hfu (Nat.lt_of_le_of_lt (Tm.at_size hat) htz) ?_
      clear S
      intro r h₅ tk₅ vq td vl ss' l q kv u' ss tl tr hlate PSq S hr hkv
      have hzu : u.size ≤ 40 := Nat.le_trans (Tm.at_size hat) hsz
      replace S := S.facts (fs' := [(vq, q.d), (vl, u'.d), (.ref ta, t.d)]) (by walk_at "some")
      w_top off
      have e44 : β + 40 + 1 + 3 = β + 44 := by omega
      rw [e44] at S
      obtain ⟨pv, pd, hkv2, hpd⟩ : ∃ pv pd, ((kv = [] ∧ q = .same u) ∨ ((td == sysModules) = false ∧ ∃ pa, kv = [(Str.ofString "t", .ref pa)] ∧ pv = .ref pa ∧ pd = .tuple [tl.d, tr.d])) ∧ TD _ pv pd := by
        rcases hkv with ⟨a, b⟩ | ⟨a, pa, b, c⟩
        · exact ⟨_, _, .inl ⟨a, b⟩, S.td (.head _)⟩
        · exact ⟨_, _, .inr ⟨a, pa, b, rfl, rfl⟩, c⟩
      replace S := S.fact hpd
      clear hkv hpd
      replace S := St.front (l := [_, _, _, _]) S
      refine St.gen (P := fun m ρ => m (Str.ofString "term") = some (.ref ta) ∧ m (Str.ofString "feed") = some (.ref fd) ∧ m (Str.ofString "pieces") = some (.ref pl) ∧ (td, MO.sd kv) ∈ ρ ∧ (ss', MO.ld (ss.map sdat)) ∈ ρ ∧ (pl, MO.ld ((pcs t).map qt)) ∈ ρ ∧ (I₁, MO.obj (rngObj (0 + 1 * ((i + 1 : Nat) : Int)) (((2 : Nat) : Int) - ((i + 1 : Nat) : Int)) 1)) ∈ ρ ∧ (s₁.heap.objs.size + 1, MO.cellD (pt p)) ∈ ρ ∧ (rl, MO.ld (row.map .int)) ∈ ρ) S ⟨rfl, hm, rfl, by k_mem, by k_mem, by k_mem, by k_mem, by k_mem, by k_mem⟩ ?_
      clear S hm
      rintro m₂ ρ ⟨f1, f2, f3, g1, g2, g3, g4, g5, g6⟩ S
      refine r_asgR S R₁ hr (by rfl) (by rfl) ?_
      clear S hr
      intro h10 l10 S
      clear l10
      repeat ((fail_if_success (with_reducible show wpAny _ _ (call (Value.ref 236) _) _ _ _)); walk1)
      rename St _ _ _ _ _ _ _ _ _ _ _ => S
      have hlq : lay 7 q.d := PSq.lay hfu
      refine St.genM (P := fun m => m (Str.ofString "term") = some (.ref ta) ∧ m (Str.ofString "feed") = some (.ref fd) ∧ m (Str.ofString "pieces") = some (.ref pl) ∧ m (Str.ofString "paper") = some vq ∧ m (Str.ofString "told") = some (.ref td) ∧ m (Str.ofString "late") = some vl ∧ m (Str.ofString "steps") = some (.ref ss')) S ⟨f1, f2, f3, rfl, rfl, rfl, rfl⟩ ?_
      clear S f1 f2 f3
      rintro m₄ ⟨f1, f2, f3, e1, e2, e3, e4⟩ S
      refine c_within (B := 7) (St.gdh S) (Rm.le R₁ (by decide)) (S.td (by k_mem)) (S.td (.head _)) (S.td (by k_mem)) hat hfit htz hp1k (by decide) h760 hlq ?_
      intro vf h11 tk11 l11 Tf
      replace S := (S.ext l11).fact Tf
      clear l11 Tf
      repeat ((fail_if_success (with_reducible show wpAny _ _ (eval (Expr.Dict _ _ _) _) _ _ _)); walk1)
      rename St _ _ _ _ _ _ _ _ _ _ _ => S
      refine r_newSD S ?_
      clear S
      intro rd h12 tk12 l12 S
      clear l12
      repeat ((fail_if_success (with_reducible show wpAny _ _ (call (Value.ref 208) _) _ _ _)); walk1)
      rename St _ _ _ _ _ _ _ _ _ _ _ => S
      refine c_judge S (Rm.le R₁ (by decide)) ?_
      clear S
      intro j dj t1 t2 h13 tk13 S
      repeat ((fail_if_success (with_reducible show wpAny _ _ (newTuple _) _ _ _)); walk1)
      rename St _ _ _ _ _ _ _ _ _ _ _ => S
      refine r_newTupleR S ?_ (by simp [sizeLine])
      clear S
      intro r14 h14 tk14 l14 hr14 S
      clear l14
      refine r_unpackR S R₁ hr14 (by rfl) ?_
      clear S hr14
      intro h15 l15 S
      clear l15
      obtain ⟨has, hsq, hkv3⟩ : ∃ has : Bool, (q = .same u ∨ has = true) ∧ (has = true → (td == sysModules) = false ∧ ∃ pa, kv = [(Str.ofString "t", .ref pa)] ∧ pv = .ref pa ∧ pd = .tuple [tl.d, tr.d]) := by
        rcases hkv2 with ⟨_, b⟩ | b
        · exact ⟨false, .inl b, fun h => nomatch h⟩
        · exact ⟨true, .inr rfl, fun _ => b⟩
      clear hkv2
      walk1
      dsimp only []
      walk1
      walk1
      walk1
      dsimp only []
      repeat ((fail_if_success (with_reducible show wpAny _ _ (getMethod _ _ _) _ _ _)); walk1)
      rename St _ _ _ _ _ _ _ _ _ _ _ => S
      refine r_gmI (f := 198) S (instJ S (by k_mem) (by k_mem)) (by k_is) (by k_is) (by k_is) (by rfl) ?_
      repeat ((fail_if_success (with_reducible show wpAny _ _ (call (Value.ref 198) _) _ _ _)); walk1)
      rename St _ _ _ _ _ _ _ _ _ _ _ => S
      have hzw : (wi t p q).size < 1000 := by have h1 := size_wi (q := q) hat; have h2 := PSq.size; have h3 : p.length * t.size ≤ 3 * 40 := Nat.mul_le_mul (Nat.le_of_lt_succ hlp) hsz; omega
      have hokw : (wi t p q).ok := PSq.ok_wi hfu (Nat.lt_of_le_of_lt hzu (by decide)) hfit htz hat
      have hww : well tl tr has (wi t p q) := well_wi (PSq.well hlate ⟨4, by decide, hfu⟩ hsq) hat
      have hlu : lay 10 t.d := (hfit.lay).le (by decide)
      have hld : lay 10 (dn t p u').d := (fit_dn (PSq.late_fit hlate hfu) hat hfit).lay
      refine c_sides (St.gdh S) (Rm.le R₁ (by decide)) (judOf S (by k_mem) (by k_mem) (by k_mem) (by k_mem) hkv3) (S.td (by k_mem)) hokw hzw hww ?_
      intro r16 h16 tk16 l16 T16
      rw [sdF_wi PSq.sd hat] at T16
      replace S := (S.ext l16).fact T16
      clear l16 T16
      repeat ((fail_if_success (with_reducible show wpAny _ _ (call (Value.ref 314) _) _ _ _)); walk1)
      rename St _ _ _ _ _ _ _ _ _ _ _ => S
      refine c_done (l := u') (p := p) (St.gdh S) (Rm.le R₁ (Nat.le_trans (Nat.add_le_add_left (by decide) _) h459)) (S.td (by k_mem)) (S.td (.head _)) (S.td (by k_mem)) hat htz hp1k ?_
      intro r17 h17 tk17 l17 T17
      replace S := (S.ext l17).fact T17
      clear l17 T17
      repeat ((fail_if_success (with_reducible show wpAny _ _ (compareOp _ _ _) _ _ _)); first | ((with_reducible show wpAny _ _ (newTuple _) _ _ _); walk_at "newTuple") | walk1)
      rename St _ _ _ _ _ _ _ _ _ _ _ => S
      refine r_neSame R₁ (d := .tuple [t.d, (dn t p u').d]) (S.td (by k_mem)) (S.td (.head _)) ((lay_tup (n := 10) (by intro d hd; simp only [List.mem_cons, List.not_mem_nil, or_false] at hd; rcases hd with rfl | rfl; exact hlu; exact hld)).shaped (by decide)) ?_
      repeat ((fail_if_success (with_reducible show wpAny _ _ (call (Value.ref 236) _) _ _ _)); first | with_reducible refine ite_false_iff ?_ | with_reducible refine ite_F_iff ?_ | ((with_reducible show wpAny _ _ (newTuple _) _ _ _); walk_at "newTuple") | walk1)
      rename St _ _ _ _ _ _ _ _ _ _ _ => S
      refine c_within (p := []) (u := t) (B := 7) (St.gdh S) (Rm.le R₁ (by decide)) (S.td (by k_mem)) (S.td (.head _)) (S.td (by k_mem)) rfl hfit htz (by decide) (by decide) (by decide) hlq ?_
      intro r18 h18 tk18 l18 T18
      replace S := (S.ext l18).fact T18
      clear l18 T18
      rw [show wi t [] q = q by simp only [wi]] at S
      repeat ((fail_if_success (with_reducible show wpAny _ _ (compareOp _ _ _) _ _ _)); walk1)
      refine r_neSame R₁ (d := q.d) (S.td (.head _)) (S.td (by k_mem)) (hlq.shaped (by decide)) ?_
      repeat ((fail_if_success (with_reducible show wpAny _ _ (exec (Stmt.If _ _ _ _) _) _ _ _)); first | with_reducible refine ite_false_iff ?_ | with_reducible refine ite_F_iff ?_ | walk1)
      rename St _ _ _ _ _ _ _ _ _ _ _ => S
      replace S := S.facts (fs' := [(vf, (wi t p q).d), (pv, pd), (vq, q.d), (.ref ta, t.d)]) (by walk_at "some")
      replace S := St.front (l := [_, _, _]) S
      refine St.gen (P := fun m ρ => m (Str.ofString "term") = some (.ref ta) ∧ m (Str.ofString "feed") = some (.ref fd) ∧ m (Str.ofString "pieces") = some (.ref pl) ∧ m (Str.ofString "paper") = some vq ∧ m (Str.ofString "found") = some vf ∧ m (Str.ofString "steps") = some (.ref ss') ∧ m (Str.ofString "judge") = some (.ref j) ∧
        (j, MO.obj (instObj 208 dj)) ∈ ρ ∧ (dj, MO.obj (dictOf (jes w' rd td t1 t2) 2)) ∈ ρ ∧ (td, MO.sd kv) ∈ ρ ∧ (ss', MO.ld (ss.map sdat)) ∈ ρ ∧ (pl, MO.ld ((pcs t).map qt)) ∈ ρ ∧ (I₁, MO.obj (rngObj (0 + 1 * ((i + 1 : Nat) : Int)) (((2 : Nat) : Int) - ((i + 1 : Nat) : Int)) 1)) ∈ ρ ∧ (s₁.heap.objs.size + 1, MO.cellD (pt p)) ∈ ρ ∧ (rl, MO.ld (row.map .int)) ∈ ρ) S ⟨f1, f2, f3, e1, rfl, e4, rfl, by k_mem, by k_mem, by k_mem, by k_mem, by k_mem, by k_mem, by k_mem, by k_mem⟩ ?_
      clear S f1 f2 f3 g1 g2 g3 g4 g5 g6 e1 e2 e3 e4
      rintro m₃ ρ₃ ⟨f1, f2, f3, f4, f5, f6, f7, g8, g9, g1, g2, g3, g4, g5, g6⟩ S
      w_top off
      obtain ⟨a1, rfl⟩ := PapRef (S.td (v := vq) (d := q.d) (by k_mem))
      refine wpAny_mono (Q := fun fl s' => fl = .next ∧ ∃ h' tk', s' = (⟨h', s₁.gens, s₁.drawn, tk', s₁.os⟩ : Shared) ∧ Le h18 h') (E := noE) ?_ ?_ (fun _ _ h => h)
      · rcases PSq.kind with hq | hns
        · replace S := S.fact (show TD _ (.ref a1) (.tuple [.str "same", u.d]) from by rw [← same_d, ← hq]; exact S.td (by k_mem))
          have hwi : (wi t p q).d = .tuple [.str "same", t.d] := by rw [hq, wi_of_same hat, same_d]
          repeat ((fail_if_success (with_reducible show wpAny _ _ (newTuple _) _ _ _)); first | with_reducible refine ite_true_iff ?_ | with_reducible refine ite_T_iff ?_ | walk1)
          rename St _ _ _ _ _ _ _ _ _ _ _ => S
          refine r_newTuple S (ds := [.str "same", t.d]) (by kqd_all) ?_ (by ktr_units)
          clear S
          intro a20 h20 tk20 l20 S
          repeat ((fail_if_success (with_reducible show wpAny _ _ (compareOp _ _ _) _ _ _)); walk1)
          refine r_neSame R₁ (d := .tuple [.str "same", t.d]) (by rw [← hwi]; exact S.td (by k_mem)) (S.td (.head _)) ((lay_tup (n := 10) (by intro d hd; simp only [List.mem_cons, List.not_mem_nil, or_false] at hd; rcases hd with rfl | rfl; exact lay_kind _ (by simp); exact hlu)).shaped (by decide)) ?_
          repeat (first | with_reducible refine ite_false_iff ?_ | with_reducible refine ite_F_iff ?_ | walk1)
          exact l20
        · obtain ⟨x, rr, hqd, hqx⟩ := Pap.kind_d q
          rw [hns] at hqx
          replace S := S.fact (show TD _ (.ref a1) (.tuple (.str x :: rr)) from by rw [← hqd]; exact S.td (by k_mem))
          have hr1000 : (PyData.str x :: rr).length < 1000 := by have := Pap.d_len q _ hqd; omega
          repeat ((fail_if_success (with_reducible show wpAny _ _ (compareOp _ _ _) _ _ _)); walk1)
          walk1
          rw [show (x == Str.ofString "same") = false from hqx]
          repeat ((fail_if_success (with_reducible show wpAny _ _ (call (Value.ref 326) _) _ _ _)); first | with_reducible refine ite_false_iff ?_ | with_reducible refine ite_F_iff ?_ | walk1)
          rename St _ _ _ _ _ _ _ _ _ _ _ => S
          refine c_islaid p (St.gdh S) (Rm.le R₁ h459) (S.td (by k_mem)) (S.td (by k_mem)) (S.td (.head _)) (S.td (by k_mem)) hat hfit (by decide) htz hp1k hns (hlq.le (by decide)) ?_
          intro h20 tk20 l20
          repeat (first | with_reducible refine ite_true_iff ?_ | with_reducible refine ite_T_iff ?_ | with_reducible refine ite_false_iff ?_ | with_reducible refine ite_F_iff ?_ | walk1)
          exact l20
      rintro fl s' ⟨rfl, h19, tk19, rfl, l19⟩
      replace S := S.ext l19
      clear l19
      dsimp only []
      w_top off
      have hss : ss.length ≤ 2 ∧ ∀ s ∈ ss, s.1.length ≤ 1 := by cases PSq <;> simp
      repeat ((fail_if_success (with_reducible show wpAny _ _ (call (Value.ref 286) _) _ _ _)); walk1)
      rename St _ _ _ _ _ _ _ _ _ _ _ => S
      refine c_steps S (Rm.le R₁ (by decide)) ?_
      clear S
      intro sj sdj t3 h21 tk21 S
      repeat ((fail_if_success (with_reducible show wpAny _ _ (getMethod _ _ _) _ _ _)); walk1)
      rename St _ _ _ _ _ _ _ _ _ _ _ => S
      refine r_gmI (f := 255) S (instS S (by k_mem) (by k_mem)) (by k_is) (by k_is) (by k_is) (by rfl) ?_
      repeat ((fail_if_success (with_reducible show wpAny _ _ (call (Value.ref 255) _) _ _ _)); walk1)
      rename St _ _ _ _ _ _ _ _ _ _ _ => S
      refine c_of_paper (St.gdh S) (Rm.le R₁ (by decide)) (judOf S (by k_mem) (by k_mem) (by k_mem) (by k_mem) hkv3) ⟨sdj, t3, instS S (by k_mem) (by k_mem)⟩ (S.td (by k_mem)) hokw hzw hww ?_
      intro sl h22 tk22 l22 hn22 hl22
      replace S := S.adopt l22 hl22 hn22
      clear l22 hl22 hn22
      repeat ((fail_if_success (with_reducible show wpAny _ _ (eval (Expr.ListComp _ _ _ _) _) _ _ _)); walk1)
      rename St _ _ _ _ _ _ _ _ _ _ _ => S
      refine r_comp S (by rfl) (by rfl) (by rfl) (by rfl) ?_
      repeat ((fail_if_success (with_reducible show wpAny _ _ (pyIter _) _ _ _)); walk1)
      rename St _ _ _ _ _ _ _ _ _ _ _ => S
      refine r_iterLd S (S.mo (show (ss', MO.ld (ss.map sdat)) ∈ _ by k_mem)) ?_
      clear S
      intro I₂ h23 tk23 l23 S
      clear l23
      dsimp only [List.cons_append, List.nil_append] at S
      refine r_ch (fun n => .ld ((ss.take n).map fun s => sdt (p ++ s.1, s.2))) (fun _ => []) S (self_list (muF := _)) (fun C => head_tris (ds := ss.map sdat) R₁.hh rfl rfl rfl rfl (fun d hd => by obtain ⟨x, _, rfl⟩ := List.mem_map.mp hd; exact ⟨_, _, _, rfl⟩)) (.inl rfl) ?_ ?_ ?_
      · clear S
        intro h₁ C D O i m h hi S; exact O.at S (show (ss', MO.ld (ss.map sdat)) ∈ _ by k_mem)
      · clear S
        rintro h₁ C D O n hn bb f m h tk ⟨v₁, v₂, v₃, d₁, d₂, d₃, hd, rfl, rfl⟩ S
        dsimp only [mB, List.cons_append, List.nil_append] at S
        rw [List.getElem?_map] at hd
        obtain ⟨⟨sp, bk⟩, hx, hxe⟩ : ∃ x, ss[n]? = some x ∧ sdat x = .tuple [d₁, d₂, d₃] := by simpa using hd
        simp only [PyData.tuple.injEq, List.cons.injEq, and_true] at hxe
        obtain ⟨rfl, rfl, rfl⟩ := hxe
        have hsp : sp.length ≤ 1 := hss.2 _ (List.mem_of_getElem? hx)
        have hln : (p.map PyData.int).length + (sp.map PyData.int).length ≤ sizeLine := by simp only [List.length_map, sizeLine]; omega
        rw [take_next hx, List.map_append]
        obtain ⟨b1, _, _, rfl, _⟩ := (S.td (.head _)).tup_inv
        rw [show List.map (fun s : Path × Bool => sdt (p ++ s.1, s.2)) [(sp, bk)] = [.tuple [.tuple (p.map .int ++ sp.map .int), .str "told", .str "t", .tuple [], .bool bk]] from by simp]
        repeat ((fail_if_success (with_reducible show wpAny _ _ (newTuple _) _ _ _)); walk1)
        walk_at "newTuple"
        repeat ((fail_if_success (with_reducible show wpAny _ _ (newTuple _) _ _ _)); walk1)
        walk_at "newTuple"
        walk_at "go"
        rename St _ _ _ _ _ _ _ _ _ _ _ => S
        exact Goes.of (S.facts (by walk_at "old"))
      clear S
      intro el h24 tk24 S
      dsimp only [List.cons_append, List.nil_append] at S
      rw [List.length_map, List.take_length] at S
      have hEq : (stF (wi t p q)).map sdt = ss.map (fun s => sdt (p ++ s.1, s.2)) := by rw [stF_wi hat, PSq.st, List.map_map]; rfl
      rw [hEq] at S
      have hll : lay 10 (.list (ss.map (fun s => sdt (p ++ s.1, s.2)))) := lay_list (n := 9) fun d hd => by
        obtain ⟨x, _, rfl⟩ := List.mem_map.mp hd
        refine lay_tup (n := 8) fun d hd => ?_
        simp only [List.mem_cons, List.not_mem_nil, or_false] at hd
        rcases hd with rfl | rfl | rfl | rfl | rfl
        · exact lay_pt 7 _
        · exact lay_kind _ (by simp)
        · exact lay_str _ (by simp only [PyData.canLay0]; decide +kernel)
        · exact lay_tup (n := 7) (by simp)
        · exact lay_bool _ _
      refine r_neL R₁ (S.mo (show (sl, MO.ld (ss.map (fun s => sdt (p ++ s.1, s.2)))) ∈ _ by k_mem)) (S.mo (.head _)) (hll.shaped (by decide)) (hll.shaped (by decide)) ?_
      rw [eqv_self (hll.shaped (by decide))]
      repeat ((fail_if_success (with_reducible show wpAny _ _ (exec (Stmt.Assign _ _ _) _) _ _ _)); first | with_reducible refine ite_false_iff ?_ | with_reducible refine ite_F_iff ?_ | walk1)
      clear hEq hll
      rename St _ _ _ _ _ _ _ _ _ _ _ => S
      replace S := S.drop1.drop1.drop1.drop1
      w_top off
      repeat ((fail_if_success (with_reducible show wpAny _ _ (call (Value.ref 297) _) _ _ _)); walk1)
      rename St _ _ _ _ _ _ _ _ _ _ _ => S
      refine c_pick S (by repeat (first | exact Up.head | apply Up.tail)) (S.mo (show (rl, MO.ld (row.map .int)) ∈ _ by k_mem)) hrf (Rm.le R₁ (by decide)) (by omega) (by omega) hrow ?_
      clear S
      intro cut tcut h25 tk25 hc0 hc1 S
      rw [List.length_map] at hc1
      repeat ((fail_if_success (with_reducible show wpAny _ _ (call (Value.type "dict") _) _ _ _)); walk1)
      rename St _ _ _ _ _ _ _ _ _ _ _ => S
      refine r_dictL ((pcs t).map fun x => (x.1, x.2.d)) S (by rw [List.map_map]; exact (show (pl, MO.ld ((pcs t).map qt)) ∈ _ by k_mem)) (by have := R₁.un; omega) R₁.hh (by rw [List.map_map]; exact pcs_nd _ t (Nat.le_refl _)) (by rw [List.length_map, pcs_len]; omega) ?_
      clear S
      intro d xs h26 tk26 S hx1 hx2
      rw [List.map_map] at hx1
      have hx1 : xs.map (·.1) = (pcs t).map (·.1) := hx1
      obtain ⟨x, hxt, hxu, hcut⟩ := wi_cut (q := q) cut.toNat hat
      have hmem : p.take cut.toNat ∈ xs.map (·.1) := by rw [hx1]; exact List.mem_map.mpr ⟨_, pcs_of_at hxt, rfl⟩
      obtain ⟨⟨p', ka, vx⟩, hy, hp'⟩ := List.mem_map.mp hmem
      have hp' : p' = p.take cut.toNat := hp'
      subst hp'
      have hatk : atKey xs (p.take cut.toNat) = some (ka, vx) := atKey_mem (by rw [hx1]; exact pcs_nd _ t (Nat.le_refl _)) hy
      have Tx : TD h26 vx x.d := by
        obtain ⟨n, hn⟩ := List.getElem?_of_mem hy
        obtain ⟨y, h1, h2⟩ := hx2 n _ ka vx hn
        obtain ⟨⟨p2, x2⟩, h3, h4⟩ := List.mem_map.mp (List.mem_of_getElem? h1)
        simp only [Prod.mk.injEq] at h4
        obtain ⟨rfl, rfl⟩ := h4
        have h5 := pcs_at _ (Nat.le_refl _) h3
        rw [hxt] at h5
        cases h5
        exact h2
      replace S := S.fact Tx
      clear hx1 hx2 hmem hy Tx
      have hlt : (p.take cut.toNat).length + (p.drop cut.toNat).length = p.length := by rw [List.length_take, List.length_drop]; omega
      have hcl : cut.toNat ≤ (p.map PyData.int).length := by rw [List.length_map]; omega
      have hpl' : (p.map PyData.int).length ≤ sizeLine := by simp only [List.length_map, sizeLine]; omega
      repeat ((fail_if_success (with_reducible show wpAny _ _ (subscriptTail _ _ _ _) _ _ _)); walk1)
      rename St _ _ _ _ _ _ _ _ _ _ _ => S
      refine r_slUpto S (S.td (.head _)) hc0 hcl ?_ hpl'
      clear S
      intro b27 h27 tk27 l27 S
      clear l27
      rw [← List.map_take] at S
      refine r_getK (p := p.take cut.toNat) (by have := R₁.un; omega) (S.mo (show (d, MO.kd xs) ∈ _ by k_mem)) (S.td (.head _)) hatk ?_
      intro t27
      repeat ((fail_if_success (with_reducible show wpAny _ _ (subscriptTail _ _ _ _) _ _ _)); walk1)
      rename St _ _ _ _ _ _ _ _ _ _ _ => S
      refine r_slUpto S (S.td (.head _)) hc0 hcl ?_ hpl'
      clear S
      intro b28 h28 tk28 l28 S
      clear l28
      rw [← List.map_take] at S
      repeat ((fail_if_success (with_reducible show wpAny _ _ (subscriptTail _ _ _ _) _ _ _)); walk1)
      rename St _ _ _ _ _ _ _ _ _ _ _ => S
      refine r_slFrom S (S.td (.head _)) hc0 hcl ?_ hpl'
      clear S
      intro b29 h29 tk29 l29 S
      clear l29
      rw [← List.map_drop] at S
      repeat ((fail_if_success (with_reducible show wpAny _ _ (call (Value.ref 236) _) _ _ _)); walk1)
      rename St _ _ _ _ _ _ _ _ _ _ _ => S
      refine c_within (p := p.drop cut.toNat) (t := x) (q := q) (B := 7) (St.gdh S) (Rm.le R₁ (by decide)) (S.td (by k_mem)) (S.td (.head _)) (S.td (by k_mem)) hxu (hfit.at hxt) (Nat.lt_of_le_of_lt (Tm.at_size hxt) htz) (by omega) (by decide) (by omega) hlq ?_
      intro vi h30 tk30 l30 Ti
      replace S := (S.ext l30).fact Ti
      clear l30 Ti
      repeat ((fail_if_success (with_reducible show wpAny _ _ (call (Value.ref 236) _) _ _ _)); walk1)
      rename St _ _ _ _ _ _ _ _ _ _ _ => S
      refine c_within (p := p.take cut.toNat) (t := t) (q := wi x (p.drop cut.toNat) q) (u := x) (B := 7 + 2 * (p.drop cut.toNat).length) (St.gdh S) (Rm.le R₁ (by decide)) (S.td (by k_mem)) (S.td (by k_mem)) (S.td (.head _)) hxt hfit htz (by omega) (by omega) (by omega) (lay_wi (n := 4) hlq (by decide) hxu (hfit.at hxt) (by decide)) ?_
      rw [hcut]
      intro vo h31 tk31 l31 To
      replace S := (S.ext l31).fact To
      clear l31 To
      repeat ((fail_if_success (with_reducible show wpAny _ _ (compareOp _ _ _) _ _ _)); walk1)
      rename St _ _ _ _ _ _ _ _ _ _ _ => S
      refine r_neSame R₁ (d := (wi t p q).d) (S.td (.head _)) (S.td (by k_mem)) ((lay_wi (n := 4) hlq (by decide) hat hfit (by decide)).shaped (Nat.le_trans h760 (by decide))) ?_
      repeat (first | with_reducible refine ite_false_iff ?_ | with_reducible refine ite_F_iff ?_ | ((fail_if_success (with_reducible show Hold _)); walk1))
      refine hQ _ _ _ ?_ (S.weak (mu' := (I₁, MO.obj (rngObj (0 + 1 * ((i + 1 : Nat) : Int)) (((2 : Nat) : Int) - ((i + 1 : Nat) : Int)) 1)) :: [(fd, .feed rl (60 * ((i + 1 : Nat) : Int))), (s₁.heap.objs.size + 1, .cellU), (rl, .ld (row.map .int))]) ?_ hnd0).bare
      · exact f2
      intro e he
      simp only [List.mem_cons, List.not_mem_nil, or_false] at he
      rcases he with rfl | rfl | rfl | rfl
      · exact ⟨S.mo (by k_mem), _, by k_mem⟩
      · obtain ⟨k, tk9, h0, h1, hk⟩ := S.mo (show (fd, MO.feed rl (β + 44 + 1)) ∈ _ by k_mem)
        exact ⟨⟨k, tk9, h0, Int.le_trans h1 (by omega), hk⟩, _, (show (fd, MO.feed rl (β + 44 + 1)) ∈ _ by k_mem)⟩
      · obtain ⟨v, hv, _⟩ := S.mo (show (s₁.heap.objs.size + 1, MO.cellD (pt p)) ∈ _ by k_mem)
        exact ⟨⟨some v, hv⟩, _, (show (s₁.heap.objs.size + 1, MO.cellD (pt p)) ∈ _ by k_mem)⟩
      · exact ⟨S.mo (by k_mem), _, by k_mem⟩
    · clear S
      rintro m mu fs h tk ⟨rfl, hfeed, rfl⟩ S
      walk_at "go"
      exact S.cx.keep
end Mine
theorem PySem.Challenge.cw_rh0006_01_holds : PySem.Challenge.rw_rh0006_01.Holds := by
  exact Mine.law_holds
