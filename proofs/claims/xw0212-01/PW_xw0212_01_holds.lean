import PyProof.Rows.All
import Wide.All
import OpenK.AllK
import Wide.FinOn
import Lean
import PySem.Challenge.RW_xw0212_01
open PySem PySem.W PySem.Calls PyProof.Rows
set_option Elab.async false
set_option maxRecDepth 100000
set_option maxHeartbeats 8000000
set_option compiler.extract_closed false
set_option linter.unusedVariables false
namespace Mine
def kept : List Stmt → List Stmt
  | [s0, _, s2, s3, s4, s5, s6, _, s8, s9, _, s11, s12, _, s14, s15, s16, _, s18, s19, s20, s21, s22, s23, s24, s25, s26, s27, s28] => [s0, s2, s3, s4, s5, s6, s8, s9, s11, s12, s14, s15, s16, s18, s19, s20, s21, s22, s23, s24, s25, s26, s27, s28]
  | l => l
def view : Program := { PySem.Challenge.pw_xw0212_01 with main := { PySem.Challenge.pw_xw0212_01.main with body := kept PySem.Challenge.pw_xw0212_01.main.body } }
/-- the run of the top, its heap a tree -/
def topRunT (tb : String → Option Builtin) (p : Program) (w : World) (n₀ : Nat) (ann : Option Value) : Nat → SharedT → Thread → Option SharedT
  | 0, _, _ => none
  | n + 1, s, t => match through t with
    | true => some s
    | false => match stepOk n₀ ann t with
      | false => none
      | true => match stepT (denote tb) p w s t with
        | some (s', t') => topRunT tb p w n₀ ann n s' t'
        | none => none
theorem topRun_ofT {tb : String → Option Builtin} {p : Program} {w : World} {n₀ : Nat} {ann : Option Value} : ∀ {n : Nat} {s s' : SharedT} {t : Thread}, topRunT tb p w n₀ ann n s t = some s' → topRun tb p w n₀ ann n s.abs t = some s'.abs
  | 0, _, _, _, h => by cases h
  | n + 1, s, s', t, h => by
    unfold topRunT at h
    unfold topRun
    cases hk : through t with
    | true => rw [hk] at h; cases h; rfl
    | false =>
      rw [hk] at h
      cases hs : stepOk n₀ ann t with
      | false => rw [hs] at h; cases h
      | true =>
        rw [hs] at h
        cases ht : stepT (denote tb) p w s t with
        | none => rw [ht] at h; cases h
        | some r => obtain ⟨s₂, t₂⟩ := r; rw [ht] at h; rw [stepT_spec ht]; exact topRun_ofT h
/-- the same by the library's quick twins of the step, the step's leave and the table (their names: Fast.stemOf of stepOk, stepT, denote, treeTable, openSeen) -/
noncomputable def topRunQ (tb : String → Option Builtin) (p : Program) (w : World) (n₀ : Nat) (ann : Option Value) : Nat → SharedT → Thread → Option SharedT
  | 0, _, _ => none
  | n + 1, s, t => match through t with
    | true => some s
    | false => match Fast.tw6613529449190102663 n₀ ann t with
      | false => none
      | true => match Fast.tw10156331382660048174 (Fast.tw11892475500146522536 tb) p w s t with
        | some (s', t') => topRunQ tb p w n₀ ann n s' t'
        | none => none
theorem topRunQ_eq {tb : String → Option Builtin} {p : Program} {w : World} {n₀ : Nat} {ann : Option Value} : ∀ {n : Nat} {s : SharedT} {t : Thread}, topRunT tb p w n₀ ann n s t = topRunQ tb p w n₀ ann n s t
  | 0, _, _ => rfl
  | n + 1, s, t => by
    unfold topRunT topRunQ
    rw [Fast.te6613529449190102663, Fast.te10156331382660048174, Fast.te11892475500146522536]
    cases through t with
    | true => rfl
    | false => cases Fast.tw6613529449190102663 n₀ ann t with
      | false => rfl
      | true =>
        cases Fast.tw10156331382660048174 (Fast.tw11892475500146522536 tb) p w s t with
        | none => rfl
        | some r => obtain ⟨s', t'⟩ := r; exact topRunQ_eq
def treeAt (l : List Obj) : Nat → Nat → Nat → BT
  | 0, _, _ => .nil
  | f + 1, a, b => match l[b]? with
    | some o => .node o (treeAt l f (2 * a) (a + b)) (treeAt l f (2 * a) (2 * a + b))
    | none => .nil
/-- the looks at the behind of the top, in two halves (the quick twins of openSeen's own parts) -/
noncomputable def seenA (q : Program) (loose mods : List Str) (Xt : Shared → Bool) (s : Shared) :=
  (Fast.tw5160383126252970620 (R.mapR (fun x => x.name) (Fast.tw3399658132070893891 q)) (Fast.tw5991557255702980513 q) [] { s with gens := #[] }, s.heap.bltView,
   Fast.tw10880121769531294198 s.heap (Fast.tw821141287760084731 q loose) (R.mapR (fun x => x.name) (Fast.tw3399658132070893891 q)) (R.mapR (fun x => x.fst) (Fast.tw7409074990110511671 q)) (R.mapR (fun x => x.name) (Fast.tw13664370479719496447 q (Fast.tw821141287760084731 q loose))) && Fast.tw14722251495701143533 s.heap mods && s.heap.isNs mainGlobals && s.heap.isNs builtinsNs && Fast.tw10994771534591457954 q s.heap && Xt s && (if true then s.gens.size == 0 else !leftWithCleanup s.gens),
   Fast.tw479339242167458305 q s)
noncomputable def goodA (q : Program) : Seen × (Option Str × List (Str × Value)) × Bool × Bool := (⟨R.mapR (fun d => some d.shape) (Fast.tw3399658132070893891 q), true, [], true, true, true, 0⟩, bltViewBooted, true, true)
noncomputable def seenB (q : Program) (loose : List Str) (s : Shared) :=
  (Fast.tw16090120013241838585 q (Fast.tw3247288618530077131 q) s, Fast.tw2386780881361962483 q (Fast.tw821141287760084731 q loose) s, Fast.tw11698064438423848299 q loose s, Fast.tw7317090234206586261 q s, Fast.tw7369524293546568484 q loose s)
noncomputable def goodB (q : Program) (loose : List Str) := (pinGoodD (Fast.tw3247288618530077131 q), R.mapR (fun c => some (Fast.tw12515865711710729776 c).plainShape) (Fast.tw210736558901404530 q (Fast.tw821141287760084731 q loose)), plainGoodD q loose, wideGood q, clsGoodW q loose)
theorem seen_halves {q : Program} {loose mods : List Str} {Xt : Shared → Bool} {s : Shared} (a : seenA q loose mods Xt s = goodA q) (b : seenB q loose s = goodB q loose) : openSeen q loose mods Xt true s = openGood q loose := by
  have e : openSeen q loose mods Xt true s = ((seenA q loose mods Xt s).1, (seenA q loose mods Xt s).2.1, (seenA q loose mods Xt s).2.2.1, (seenA q loose mods Xt s).2.2.2, seenB q loose s) := by rw [Fast.te4187177175401517315]; rfl
  have g : openGood q loose = ((goodA q).1, (goodA q).2.1, (goodA q).2.2.1, (goodA q).2.2.2, goodB q loose) := by
    unfold openGood expectedOf plainGoodE goodA goodB
    rw [Fast.te3399658132070893891, Fast.te3247288618530077131, Fast.te210736558901404530, Fast.te821141287760084731, Fast.te12515865711710729776, R.mapR_eq]
  rw [e, g, a, b]
theorem left_of_tree {p q : Program} {loose : List Str} {Xt : Shared → Bool} {α : Type} {Yf : Shared → α} {Ya : World → α} {N : Nat} {H₀ : Params → Heap} {gs₀ : Array GenState} {d₀ : Drawn} {k₀ m₀ n₀ : Nat} {ann : Option Value} {T₀ : Params → BT} {life : Life}
    (open_ : ∀ w : World, (fencedOpening treeTable p w N).map (fun s => (s.heap, s.gens, s.drawn, s.toks)) = some (H₀ w.params, gs₀, d₀, k₀))
    (size : ∀ w : World, ((H₀ w.params).isNs mainGlobals && gs₀.size == 0, (H₀ w.params).objs.size, (H₀ w.params).nsMap mainGlobals "__annotations__") = (true, m₀, ann))
    (tree : ∀ w : World, H₀ w.params = absHeap (T₀ w.params) n₀ life)
    (runA : ∀ (w : World) (os : OsState), (topRunQ Fast.tw14364793385576792824 p w m₀ ann N ⟨T₀ w.params, n₀, life, gs₀, d₀, k₀, os⟩ (topStub p)).map (fun s => (staticsOk (importedModules p.main.body) (H₀ w.params) s.abs.heap && namesBound p s.abs.heap && gensDone s.abs && laidKept (H₀ w.params) s.abs.heap,
      seenA q loose (importedModules p.main.body) Xt s.abs)) = some (true, goodA q))
    (runB : ∀ (w : World) (os : OsState), (topRunQ Fast.tw14364793385576792824 p w m₀ ann N ⟨T₀ w.params, n₀, life, gs₀, d₀, k₀, os⟩ (topStub p)).map (fun s => seenB q loose s.abs) = some (goodB q loose))
    (runC : ∀ (w : World) (os : OsState), (topRunQ Fast.tw14364793385576792824 p w m₀ ann N ⟨T₀ w.params, n₀, life, gs₀, d₀, k₀, os⟩ (topStub p)).map (fun s => Yf s.abs) = some (Ya w)) : LeftO p q loose Xt Yf Ya N true := fun w => by
  obtain ⟨⟨h, gs, d, k, os⟩, e, e'⟩ := Option.map_eq_some_iff.mp (open_ w)
  obtain ⟨rfl, rfl, rfl, rfl⟩ : h = H₀ w.params ∧ gs = gs₀ ∧ d = d₀ ∧ k = k₀ := by simpa using e'
  obtain ⟨z1, z2, z3⟩ : _ ∧ _ ∧ _ := by simpa only [Prod.mk.injEq] using size w
  obtain ⟨s', hs, hl⟩ := Option.map_eq_some_iff.mp (runA w os)
  have hb := runB w os
  have hc := runC w os
  rw [hs] at hb hc
  rw [← topRunQ_eq, ← Fast.te14364793385576792824] at hs
  obtain ⟨l1, la⟩ : _ ∧ _ := by simpa only [Prod.mk.injEq] using hl
  have l2 := seen_halves la (Option.some.inj hb)
  have l3 : Yf s'.abs = Ya w := Option.some.inj hc
  have r := topRun_ofT hs
  rw [show (⟨T₀ w.params, n₀, life, gs, d, k, os⟩ : SharedT).abs = ⟨H₀ w.params, gs, d, k, os⟩ from by rw [tree w]; rfl] at r
  have t : topFrom treeTable p w N ⟨H₀ w.params, gs, d, k, os⟩ = some s'.abs := by
    unfold topFrom
    dsimp only
    rw [z1, z2, z3, r]
    show (match staticsOk (importedModules p.main.body) (H₀ w.params) s'.abs.heap && namesBound p s'.abs.heap && gensDone s'.abs && laidKept (H₀ w.params) s'.abs.heap with | true => _ | false => _) = _
    rw [l1]
  unfold openEnds
  rw [e]
  show (topFrom treeTable p w N ⟨H₀ w.params, gs, d, k, os⟩).map _ = _
  rw [t]
  show some (openSeen q loose (importedModules p.main.body) Xt true s'.abs, Yf s'.abs) = _
  rw [l2, l3]
/-- the run of this law's top -/
noncomputable abbrev ran (w : World) (os : OsState) := topRunQ Fast.tw14364793385576792824 PySem.Challenge.pw_xw0212_01 w 11 (some (.ref 6)) 4814 ⟨(fun P => treeAt (boot_heap P).objs.toList 20 1 0) w.params, 11, {}, Array.mk [], boot_drawn, boot_toks, os⟩ (topStub PySem.Challenge.pw_xw0212_01)
theorem ranA : ∀ (w : World) (os : OsState), (ran w os).map (fun s => (staticsOk (importedModules PySem.Challenge.pw_xw0212_01.main.body) (boot_heap w.params) s.abs.heap && namesBound PySem.Challenge.pw_xw0212_01 s.abs.heap && gensDone s.abs && laidKept (boot_heap w.params) s.abs.heap,
    seenA view [] (importedModules PySem.Challenge.pw_xw0212_01.main.body) (fun s => xlAt view [] s && recOk (RowW.records (OpenRow.toRowW PySem.Challenge.rw_xw0212_01.row)) s) s.abs)) = some (true, goodA view) := fun w os => by kernel_rfl
theorem ranB : ∀ (w : World) (os : OsState), (ran w os).map (fun s => seenB view [] s.abs) = some (goodB view []) := fun w os => by kernel_rfl
end Mine
/-- the looks at the law, each a small check of the kernel's own, over the library's quick twins (Fast.stemOf of OpenLaw.wellSaid, OpenRow.wellSaid, OpenRow.partSaid, looksOpen) -/
theorem Mine.said9 : OpenLaw.wellSaid PySem.Challenge.rw_xw0212_01 = true := by
  rw [Fast.te9446332074065402090]
  delta Fast.tw9446332074065402090
  (repeat' with_reducible refine look_both ?_ ?_)
  all_goals try (with_reducible delta Fast.tw17960256430627541270; (repeat' with_reducible refine look_both ?_ ?_))
  all_goals try (with_reducible delta Fast.tw2436336058641802641; (repeat' with_reducible refine look_both ?_ ?_))
  all_goals try (with_reducible delta Fast.tw12908688711261696721; (repeat' with_reducible refine look_both ?_ ?_))
  all_goals decide +kernel
local macro_rules | `(tactic| o_law) => `(tactic| refine holds_law Mine.said9 fun said => ?_)
local macro_rules | `(tactic| o_head $H) => do
  let hl := Lean.mkIdent `hl
  let hw := Lean.mkIdent `hw
  let hc := Lean.mkIdent `hc
  `(tactic| (refine holds_open (q := Mine.view) (loose := []) (Xt := fun s => xlAt Mine.view [] s && recOk (RowW.records (OpenRow.toRowW PySem.Challenge.rw_xw0212_01.row)) s) (XP := XL Mine.view []) (Yf := Hook.obs $H) (Ya := Hook.val $H) (YP := Hook.says $H) (N := 4814) ?$hl (Hook.of $H) (Hook.keeps $H) (fun s e => xl_of s (Bool.and_eq_true_iff.mp e).1) XL.keeps (by rfl) (by rfl) (by rfl) (fun s e => recFacts_of (Bool.and_eq_true_iff.mp e).2) (by rfl) (by first | assumption | decide +kernel) (by decide +kernel) ⟨rfl, rfl, rfl, rfl, rfl, by decide +kernel⟩ ?$hw ?$hc
             exact Mine.left_of_tree (m₀ := 11) (ann := some (.ref 6)) (n₀ := 11) (T₀ := fun P => Mine.treeAt (boot_heap P).objs.toList 20 1 0) (life := {}) (boot_open (by rfl) (by decide) (fun s => by rfl)) (fun w => by kernel_rfl) (fun w => by kernel_rfl) Mine.ranA Mine.ranB (fun w os => by kernel_rfl)))
namespace Mine
open_top hd for PySem.Challenge.rw_xw0212_01
end Mine
namespace Mine
section
example : True := by
  w_top off
  k_with_none
  trivial

abbrev AA (dp un : Nat) (gd : Option (List Code)) (env : Env) (outer : List Env) : Around := { handled := none, depth := dp, frames := some (env :: outer), guards := gd, units := un }

abbrev Prg : Program := PySem.Challenge.rw_xw0212_01.row.prog
theorem lt_dp {d a b : Nat} (h : d + b < 901) (e : Nat.ble (a + 2) b = true) : d + 1 + a < 900 := by
  have := Nat.le_of_ble_eq_true e
  omega
theorem lt_un {u a b : Nat} (h : u + 16 * b < 9016) (e : Nat.ble (a + 2) b = true) : u + 3 + 16 * a < 9000 := by
  have := Nat.le_of_ble_eq_true e
  omega
theorem lt_s {a b : Nat} (h : a < b) : a < b + 1 := Nat.lt_succ_of_lt h
theorem le_big {a b c : Nat} (h : a < b) (e : Nat.ble b c = true) : a ≤ c := Nat.le_trans (Nat.le_of_lt h) (Nat.le_of_ble_eq_true e)
theorem le_big2 {a b c : Nat} (h : a ≤ b) (e : Nat.ble b c = true) : a ≤ c := Nat.le_trans h (Nat.le_of_ble_eq_true e)
theorem lt_big {a b c : Nat} (h : a < b) (e : Nat.ble b c = true) : a < c := Nat.lt_of_lt_of_le h (Nat.le_of_ble_eq_true e)

/-- a def's contract: called from any frame -/
def Spec (w : World) (f : Value) (vs : List Value) (n : Nat) (FP : List (Addr × Obj)) (Post : Value → Heap → Prop) (h : Heap) : Prop :=
  ∀ (dp un : Nat) (gd : Option (List Code)) (env : Env) (outer : List Env) (A₀ : Around) (base h₀ : Heap) (L : Addr) (m : Str → Option Value) (p : Program) (loose : List Str) (mean : ExcName → Option Value) (mg mb : Str → Option Value)
    (gs : Array GenState) (ds : Drawn) (tk : Nat) (os : OsState) (Q E : Value → Shared → Prop),
    Below A₀ base outer h₀ → Fr h₀ L h m → (hd.heap_1 w.params).In h₀ → Top p loose mean mg mb h₀ → env.frame = some L → env.scope.kind = .function → News h₀ L h FP →
    dp + n < 900 → un + 16 * n < 9000 →
    (∀ v h' tk', Fr h₀ L h' m → (∀ b o, b ∉ FP.map (·.1) → h.get? b = some o → h'.get? b = some o) → Post v h' → Q v ⟨h', gs, ds, tk', os⟩) →
    wpAny (model Prg w) (AA dp un gd env outer) (call f vs) Q E ⟨h, gs, ds, tk, os⟩

/-- how a body ends -/
def Ret (g : Heap) (L' : Addr) (gs : Array GenState) (ds : Drawn) (os : OsState) (Post : Value → Heap → Prop) (v : Value) (s' : Shared) : Prop :=
  ∃ h' tk' m', s' = ⟨h', gs, ds, tk', os⟩ ∧ Fr g L' h' m' ∧ Post v h'

theorem enter {w : World} {f : Addr} {vs : List Value} {n : Nat} {FP : List (Addr × Obj)} {Post : Value → Heap → Prop} {h : Heap}
    {name qual : Str} {params : Arguments} {body : List Stmt} {scope : Scope} {dV kV doc pm cdv ct oc : Value} {an od : Option Addr} {osl : Array (Option Value)} {binds : List (Str × Value)}
    (ho : (hd.heap_1 w.params).lookup f = some ⟨oc, od, .func (fnOf name qual params body scope dV kV doc pm an cdv ct), osl⟩) (hcd : codeIn (hd.heap_1 w.params) cdv qual = true)
    (hbind : ∀ s, BindsTo s (fnOf name qual params body scope dV kV doc pm an cdv ct) ⟨vs, []⟩ binds) (hloc : ∀ y ∈ binds, scope.names.lookup y.1 = some .local)
    (hco : scope.isCoroutine = false) (hgen : scope.isGenerator = false) (hk : scope.kind = .function) (hcell : ∀ x ∈ scope.names, x.2 ≠ .cell)
    (walk : ∀ (dp un : Nat) (gd : Option (List Code)) (env : Env) (outer : List Env) (A₀ : Around) (base g : Heap) (L' : Addr) (h₁ : Heap) (p : Program) (loose : List Str) (mean : ExcName → Option Value) (mg mb : Str → Option Value)
      (gs : Array GenState) (ds : Drawn) (tk : Nat) (os : OsState),
      Below A₀ base (env :: outer) g → (hd.heap_1 w.params).In g → Top p loose mean mg mb g → Fr g L' h₁ (fun y => binds.reverse.lookup y) → News g L' h₁ FP → (∀ p ∈ FP, p.1 < L') → dp + n < 901 → un + 16 * n < 9016 →
      (∀ b o, b ∉ FP.map (·.1) → h.get? b = some o → g.get? b = some o) →
      wpAny (model Prg w) (AA (dp + 1) (un + 3) gd (envOf qual scope L' f cdv) (env :: outer)) (execs body (envOf qual scope L' f cdv))
        (fun fl s' => Ret g L' gs ds os Post (match fl with | .ret v => v | _ => .none) s') (fun _ _ => False) ⟨h₁, gs, ds, tk, os⟩) :
    Spec w (.ref f) vs n FP Post h := by
  intro dp un gd env outer A₀ base h₀ L m p loose mean mg mb gs ds tk os Q E B F X T hf hke N hdp hun hQ
  obtain ⟨FG, BG, st, _⟩ := groundX (R := fun _ _ => True) (s := ⟨h, gs, ds, tk, os⟩) (A := AA dp un gd env outer) B F N rfl hf hke
  refine wpAny_call (codeAny_call_def (fd := fnOf name qual params body scope dV kV doc pm an cdv ct) (body := body) (binds := binds) (by show dp < 1000; omega) (F.keep _ _ (X _ _ ho)) rfl (T.nolimit.keeps F.keep)
    (codeRec_of (X.keeps F.keep) hcd) rfl (hbind _) hcell hloc (fun h₁ hns hk₁ => ?_) hco hgen hk)
  have W := walk dp un gd env outer (AA dp un gd env outer) base (hideAll h (FP.map (·.1))) h.objs.size h₁ p loose mean mg mb gs ds (tk + binds.length) os
    BG (X.keeps st) (T.keeps st) ⟨hns, fun b o e => hk₁ b o (of_hideAll _ e), Nat.le_of_eq (hideAll_size _ _)⟩
    (fun p hp => ⟨hk₁ _ _ (N p hp).1, Nat.ne_of_lt (Heap.lt_size (N p hp).1), hideAll_none _ (List.mem_map_of_mem hp)⟩) (fun p hp => Heap.lt_size (N p hp).1) (by omega) (by omega)
    (fun b o hb e => hideAll_get _ e hb)
  refine wpAny_mono W (fun fl s' hl => ?_) fun _ _ y => y.elim
  obtain ⟨h', tk', m', rfl, F', P⟩ := hl
  refine hQ _ h' tk' ?_ (fun b o hb e => F'.keep b o (hideAll_get _ e hb)) P
  obtain ⟨oL, es, ep, hL, r⟩ := FG.ns
  exact ⟨⟨oL, es, ep, F'.keep L oL hL, r⟩, fun b o e => F'.keep b o (st b o e), F.above⟩

/-- all is kept but at the footprint: with the footprint's parts that stand as they stood, all is kept -/
theorem kept_all {h h' : Heap} {FP : List (Addr × Obj)} (hk : ∀ b o, b ∉ FP.map (·.1) → h.get? b = some o → h'.get? b = some o) (N : ∀ q ∈ FP, h.get? q.1 = some q.2) (N' : ∀ q ∈ FP, h'.get? q.1 = some q.2) :
    ∀ b o, h.get? b = some o → h'.get? b = some o := fun b o e => by
  by_cases hb : b ∈ FP.map (·.1)
  · obtain ⟨q, hq, rfl⟩ := List.mem_map.mp hb
    have h1 := N q hq
    rw [e] at h1
    rw [N' q hq, ← Option.some.inj h1]
  · exact hk b o hb e

abbrev ent (w : World) (name : Str) (t : Tok) (v : Value) : DictEntry := ⟨PyData.keyHash w.params name, .str name t, v⟩

section
variable {prog : Program} {w : World} {A : Around} {E : Value → Shared → Prop} {s : Shared} {h₀ : Heap} {L : Addr} {news : List (Addr × Obj)} {a : Addr} {xs : List Value} {n : Nat}
theorem ne_of_allLt {d : Addr} {l : List (Addr × Obj)} (h : AllLt d l) : ∀ p ∈ l, p.1 ≠ d := fun p hp => Nat.ne_of_lt (ktn_ltOf h p hp)
theorem ne_of_lts {d L : Addr} {l : List (Addr × Obj)} (h : ∀ p ∈ l, p.1 < L) (hd : L ≤ d) : ∀ p ∈ l, p.1 ≠ d := fun p hp => Nat.ne_of_lt (Nat.lt_of_lt_of_le (h p hp) hd)
theorem ne_of_lts2 {d : Addr} {l : List (Addr × Obj)} (h : ∀ p ∈ l, p.1 < d) : ∀ p ∈ l, p.1 ≠ d := fun p hp => Nat.ne_of_lt (h p hp)
theorem led_of {h₀ h : Heap} {L : Addr} {news FP : List (Addr × Obj)} (N : News h₀ L h news) (hs : ∀ q ∈ FP, q ∈ news) : ∀ q ∈ FP, h.get? q.1 = some q.2 := fun q hq => (N q (hs q hq)).1
theorem sub_app {l l' own : List (Addr × Obj)} (h : ∀ p ∈ l, p ∈ l') : ∀ p ∈ l, p ∈ l' ++ own := fun p hp => List.mem_append_left _ (h p hp)
theorem sub_cc {q : Addr × Obj} {l l' : List (Addr × Obj)} (h : ∀ p ∈ l, p ∈ l') : ∀ p ∈ q :: l, p ∈ q :: l' := fun p hp => by
  rcases List.mem_cons.mp hp with rfl | hp; exact .head _; exact .tail _ (h p hp)
theorem sub_tl {q : Addr × Obj} {l l' : List (Addr × Obj)} (h : ∀ p ∈ l, p ∈ l') : ∀ p ∈ l, p ∈ q :: l' := fun p hp => .tail _ (h p hp)

/-- a read-only contract, used by a caller's walk -/
theorem use_ro {w : World} {f : Value} {vs : List Value} {n : Nat} {FP news : List (Addr × Obj)} {Res : Value → Heap → Prop} {dp un : Nat} {gd : Option (List Code)} {env : Env} {outer : List Env} {A₀ : Around} {base h₀ : Heap} {L : Addr} {m : Str → Option Value}
    {p : Program} {loose : List Str} {mean : ExcName → Option Value} {mg mb : Str → Option Value} {s : Shared} {Q E : Value → Shared → Prop}
    (S : Spec w f vs n FP (fun v h' => Res v h' ∧ ∀ q ∈ FP, h'.get? q.1 = some q.2) s.heap) (B : Below A₀ base outer h₀) (F : Fr h₀ L s.heap m) (X : (hd.heap_1 w.params).In h₀) (T : Top p loose mean mg mb h₀) (hf : env.frame = some L) (hk : env.scope.kind = .function)
    (N : News h₀ L s.heap news) (hs : ∀ q ∈ FP, q ∈ news) (hdp : dp + n < 900) (hun : un + 16 * n < 9000)
    (k : ∀ v h' tk', Fr h₀ L h' m → News h₀ L h' news → (∀ b o, s.heap.get? b = some o → h'.get? b = some o) → Res v h' → Q v { s with heap := h', toks := tk' }) :
    wpAny (model Prg w) (AA dp un gd env outer) (call f vs) Q E s := by
  obtain ⟨h, gs, ds, tk, os⟩ := s
  refine S dp un gd env outer A₀ base h₀ L m p loose mean mg mb gs ds tk os Q E B F X T hf hk (fun q hq => N q (hs q hq)) hdp hun fun v h' tk' F' kp P => ?_
  have ka := kept_all kp (fun q hq => (N q (hs q hq)).1) P.2
  exact k v h' tk' F' (fun q hq => ⟨ka _ _ (N q hq).1, (N q hq).2⟩) ka P.1

def AllNe (d : Addr) : List (Addr × Obj) → Prop
  | [] => True
  | p :: r => @Ne Nat p.1 d ∧ AllNe d r
theorem allNe_of {d : Addr} : ∀ {l : List (Addr × Obj)}, (∀ p ∈ l, p.1 ≠ d) → AllNe d l
  | [], _ => trivial
  | p :: _, h => ⟨h p (.head _), allNe_of fun q hq => h q (.tail _ hq)⟩
theorem ne_of_allNe {d : Addr} : ∀ {l : List (Addr × Obj)}, AllNe d l → ∀ p ∈ l, p.1 ≠ d
  | [], _, _, hp => (nomatch hp)
  | q :: r, h, p, hp => by
    rcases List.mem_cons.mp hp with rfl | hp
    · exact h.1
    · exact ne_of_allNe h.2 p hp

theorem fresh_of {h g h' : Heap} {L' D : Addr} {o : Obj} {FP news' : List (Addr × Obj)} (kp : ∀ b o, b ∉ FP.map (·.1) → h.get? b = some o → g.get? b = some o) (N' : News g L' h' news') (hm : (D, o) ∈ news') (hD : ∀ p ∈ FP, p.1 ≠ D) : h.get? D = none := by
  cases e : h.get? D with
  | none => rfl
  | some o' =>
    have := kp D o' (fun q => by obtain ⟨p, hp, e2⟩ := List.mem_map.mp q; exact hD p hp e2) e
    rw [(N' _ hm).2.2] at this; cases this

/-- a contract that reads, and hands back one new object -/
theorem use_new {w : World} {f : Value} {vs : List Value} {n : Nat} {FP news : List (Addr × Obj)} {R : Obj → Heap → Prop} {dp un : Nat} {gd : Option (List Code)} {env : Env} {outer : List Env} {A₀ : Around} {base h₀ : Heap} {L : Addr} {m : Str → Option Value}
    {p : Program} {loose : List Str} {mean : ExcName → Option Value} {mg mb : Str → Option Value} {s : Shared} {Q E : Value → Shared → Prop}
    (S : Spec w f vs n FP (fun v h' => (∃ D o, v = .ref D ∧ s.heap.get? D = none ∧ h'.get? D = some o ∧ R o h') ∧ ∀ q ∈ FP, h'.get? q.1 = some q.2) s.heap) (B : Below A₀ base outer h₀) (F : Fr h₀ L s.heap m) (X : (hd.heap_1 w.params).In h₀) (T : Top p loose mean mg mb h₀) (hf : env.frame = some L) (hk : env.scope.kind = .function)
    (N : News h₀ L s.heap news) (hs : ∀ q ∈ FP, q ∈ news) (hdp : dp + n < 900) (hun : un + 16 * n < 9000)
    (k : ∀ D o h' tk', Fr h₀ L h' m → News h₀ L h' ((D, o) :: news) → AllNe D news → D ≠ L → (∀ b o, s.heap.get? b = some o → h'.get? b = some o) → R o h' → Q (.ref D) { s with heap := h', toks := tk' }) :
    wpAny (model Prg w) (AA dp un gd env outer) (call f vs) Q E s := by
  refine use_ro (Res := fun v h' => ∃ D o, v = .ref D ∧ s.heap.get? D = none ∧ h'.get? D = some o ∧ R o h') S B F X T hf hk N hs hdp hun fun v h' tk' F' N' ka hv => ?_
  obtain ⟨D, o, rfl, hD, hD', hR⟩ := hv
  have hDL : D ≠ L := by
    rintro rfl
    obtain ⟨oL, _, _, e, _⟩ := F.ns
    rw [hD] at e; cases e
  refine k D o h' tk' F' (fun q hq => ?_) (allNe_of fun q hq e => ?_) hDL ka hR
  · rcases List.mem_cons.mp hq with rfl | hq
    · refine ⟨hD', hDL, ?_⟩
      cases e : h₀.get? D with
      | none => rfl
      | some o' => have := F.keep _ _ e; rw [hD] at this; cases this
    · exact N' q hq
  · have := (N q hq).1; rw [e, hD] at this; cases this

/-- a contract that turns one object -/
theorem use_upd {w : World} {f : Value} {vs : List Value} {n : Nat} {d : Addr} {o : Obj} {news : List (Addr × Obj)} {gg : Obj → List (Addr × Obj)} {R : Value → Obj → Prop} {dp un : Nat} {gd : Option (List Code)} {env : Env} {outer : List Env} {A₀ : Around} {base h₀ : Heap} {L : Addr} {m : Str → Option Value}
    {p : Program} {loose : List Str} {mean : ExcName → Option Value} {mg mb : Str → Option Value} {s : Shared} {Q E : Value → Shared → Prop}
    (S : Spec w f vs n [(d, o)] (fun v h' => ∃ o', h'.get? d = some o' ∧ R v o') s.heap) (B : Below A₀ base outer h₀) (F : Fr h₀ L s.heap m) (X : (hd.heap_1 w.params).In h₀) (T : Top p loose mean mg mb h₀) (hf : env.frame = some L) (hk : env.scope.kind = .function)
    (N : News h₀ L s.heap news) (U : UpdF d o news gg) (hdp : dp + n < 900) (hun : un + 16 * n < 9000)
    (k : ∀ v o' h' tk', Fr h₀ L h' m → News h₀ L h' (gg o') → R v o' → Q v { s with heap := h', toks := tk' }) :
    wpAny (model Prg w) (AA dp un gd env outer) (call f vs) Q E s := by
  obtain ⟨h, gs, ds, tk, os⟩ := s
  obtain ⟨own, rest, rfl, hg, a, b⟩ := U.split
  have hm := N (d, o) (List.mem_append_right _ (.head _))
  refine S dp un gd env outer A₀ base h₀ L m p loose mean mg mb gs ds tk os Q E B F X T hf hk (fun q hq => by rw [List.mem_singleton.mp hq]; exact hm) hdp hun fun v h' tk' F' kp P => ?_
  obtain ⟨o', ho', hR⟩ := P
  refine k v o' h' tk' F' ?_ hR
  rw [hg o']
  intro q hq
  rcases List.mem_append.mp hq with hq | hq
  · have := N q (List.mem_append_left _ hq)
    exact ⟨kp _ _ (by simpa using a q hq) this.1, this.2⟩
  · rcases List.mem_cons.mp hq with rfl | hq
    · exact ⟨ho', hm.2⟩
    · have := N q (List.mem_append_right _ (.tail _ hq))
      exact ⟨kp _ _ (by simpa using b q hq) this.1, this.2⟩

theorem L_len {Q : Value → Shared → Prop} (N : News h₀ L s.heap news) (hm : (a, listOf xs.toArray n) ∈ news) (hz : xs.length < 1000)
    (h : Q (.int xs.length (s.toks + 1)) { s with toks := s.toks + 1 + 1 }) : wpAny (model prog w) A (call (.builtin "len") [.ref a]) Q E s := by
  have hl : s.heap.IsList a xs.toArray := ⟨_, (N _ hm).1, rfl, n, rfl⟩
  refine Calls.call_len_list hl (by rw [List.size_toArray]; omega) ?_
  rw [List.size_toArray]; exact h
theorem L_isList (N : News h₀ L s.heap news) (hm : (a, listOf xs.toArray n) ∈ news) : s.heap.IsList a xs.toArray := ⟨_, (N _ hm).1, rfl, n, rfl⟩
theorem L_copy {m : Str → Option Value} {Q : Value → Shared → Prop} (F : Fr h₀ L s.heap m) (N : News h₀ L s.heap news) (hm : (a, listOf xs.toArray n) ∈ news) (hz : xs.length < 1000)
    (h : ∀ D c h', Fr h₀ L h' m → News h₀ L h' ((D, listOf xs.toArray c) :: news) → AllLt D news → Q (.ref D) { s with heap := h' }) : wpAny (model prog w) A (call (.type "list") [.ref a]) Q E s :=
  list_copyK F N ⟨_, (N _ hm).1, rfl, n, rfl⟩ (fun D c h' F' N' l => h D c h' F' N' (allLt_of l)) (by rw [List.size_toArray, sizeLine_eq]; omega)
end
end
local macro_rules | `(tactic| walk_at $s:str) => do
  let t := Lean.Syntax.mkStrLit ("!" ++ s.getString)
  `(tactic| k_extra $t)
local macro_rules | `(tactic| k_all) => `(tactic| k_extra "!k_all")
local macro_rules | `(tactic| k_mem) => `(tactic| k_extra "!k_mem")
local macro_rules | `(tactic| k_handed) => `(tactic| k_extra "!k_handed")
local macro_rules | `(tactic| k_room) => `(tactic| k_extra "!k_room")
local macro_rules | `(tactic| omega) => `(tactic| k_extra "!omega")
example (w : World) : (hd.heap_1 w.params).In (default : Heap) → PySem.Challenge.rw_xw0212_01.Holds → True := by
  k_fill
  intros; trivial









section
example : True := by
  w_top off
  k_with_none
  k_with "!c1" => first | assumption | exact And.right (by k_extra "!c2") | fail
  k_with "!c2" => first | assumption | exact And.right (by k_extra "!c3") | fail
  k_with "!c3" => first | assumption | exact And.right (by k_extra "!c4") | fail
  k_with "!c4" => first | assumption | exact And.right (by k_extra "!c5") | fail
  k_with "!c5" => first | assumption | exact And.right (by k_extra "!c6") | fail
  k_with "!c6" => first | assumption | exact And.right (by k_extra "!c7") | fail
  k_with "!c7" => first | assumption | exact And.right (by k_extra "!c8") | fail
  k_with "!c8" => assumption
  k_with "!lt9" => with_reducible first | exact And.left (by k_extra "!c1") | exact And.right (by k_extra "!c1") | fail
  k_with "!omega" => with_reducible first | exact lt_dp (by assumption) (by with_unfolding_all exact rfl) | exact lt_un (by assumption) (by with_unfolding_all exact rfl) | assumption | exact Ne.symm (by assumption) | exact Nat.ne_of_lt (by assumption) | exact Nat.ne_of_gt (by assumption) | exact le_big (by assumption) (by with_unfolding_all exact rfl) | exact le_big2 (by assumption) (by with_unfolding_all exact rfl) | exact lt_big (by assumption) (by with_unfolding_all exact rfl) | exact Nat.le_of_ble_eq_true (by with_unfolding_all exact rfl) | exact Nat.ne_of_gt (lt_s (by assumption)) | exact Nat.ne_of_gt (lt_s (lt_s (by assumption))) | exact Nat.ne_of_gt (lt_s (lt_s (lt_s (by assumption)))) | exact Nat.ne_of_lt (by k_extra "!lt9") | exact Nat.ne_of_gt (by k_extra "!lt9") | (refine Nat.lt_of_lt_of_le ?_ (Nat.le_refl _); k_extra "!lt9") | fail
  k_with "!call builtin:len" => (k_here; (with_reducible show wpAny _ _ (call (Value.builtin "len") [Value.ref _]) _ _ _); k_dflt (refine' L_len ?N ?m ?z ?_; (case N => k_asm); (case m => k_mem); (case z => omega); k_whole))
  k_with "!item" => first | (k_here; (with_reducible show wpAny _ _ (subscriptTail _ _ (Value.ref _) (Value.int _ _)) _ _ _); k_dflt (refine' kim_list ?N ?m ?c ?d ?z ?f ?x ?_; (case N => k_asm); (case m => k_mem); (case c => rfl); (case d => rfl); (case z => omega); (case f => omega); (case x => (try simp only [Int.toNat_natCast]); first | assumption | rfl | exact List.getElem?_eq_getElem (by omega)); k_whole)) | (k_here; (with_reducible show wpAny _ _ (subscriptTail _ _ (Value.ref _) (Value.int _ _)) _ _ _); k_dflt (refine' kda_item (knd := PySem.intKind _ _) ?N ?m ?d (intKind_is _ _ _ _) ?v ?_; (case N => k_asm); (case d => assumption); (case m => k_mem); (case v => assumption); k_whole))
  k_with "!subscriptTail" => k_extra "!item"
  k_with "!subscriptTail Name Name ref int" => k_extra "!item"
  k_with "!k_all" => first | exact ne_of_allLt (by assumption) | exact ne_of_allLt (And.right (by assumption)) | exact ne_of_allLt (And.right (And.right (by assumption)))
  k_with "!sub" => first | exact fun _ h => h | (with_reducible assumption) | exact sub_app (by assumption) | exact sub_app (fun _ h => h) | exact (fun _ h => List.mem_append_right _ h) | (refine sub_cc ?_; k_extra "!sub") | (refine sub_tl ?_; k_extra "!sub")
  k_with "!U" => ((case B => assumption); (case F => k_asm); (case X => assumption); (case T => assumption); (case hf => exact rfl); (case hk => exact rfl); (case N => k_asm); (case hs => k_extra "!sub"); (case hdp => ((try dsimp only); omega)); (case hun => ((try dsimp only); omega)); k_whole)
  k_with "!k_handed" => with_reducible assumption
  k_with "!call type:list" => (k_here; (with_reducible show wpAny _ _ (call (Value.type "list") [Value.ref _]) _ _ _); k_dflt (refine' L_copy ?F ?N ?m ?z ?_; (case F => k_asm); (case N => k_asm); (case m => k_mem); (case z => omega); k_whole); intro zqD zqc zqh zqF zqN zql1; (try simp only [AllLt, and_true] at zql1))
  k_with "!k_all" => first | exact ne_of_allNe (by assumption) | exact ne_of_allNe (And.right (by assumption)) | exact ne_of_allNe (And.right (And.right (by assumption)))
  k_with "!call ref" => k_extra "call ref"
  k_with "!k_all" => first | exact ne_of_lts2 (by assumption) | (with_reducible assumption)
  k_with "!k_mem" => assumption
  k_with "!callWith ref" => (k_here; k_dflt (first | (refine' callWith_K ?k1 ?k2 ?_; (case k1 => k_asm); (case k2 => k_is); k_whole) | (refine' callWith_K0 ?k1 ?k2 ?_; (case k1 => k_in); (case k2 => k_is); k_whole) | (refine' callWith_M0 ?k1 ?k2 ?_; (case k1 => k_meth); (case k2 => k_is); k_whole; try dsimp only [List.nil_append, List.cons_append]) | (refine' callWith_M ?k1 ?k2 ?k3 ?k4 ?_; (case k1 => k_asm); (case k2 => k_asm); (case k3 => k_mem); (case k4 => k_is); k_whole) | (refine' callWith_F ?k1 ?_; (case k1 => exact FnAt.of (by k_asm) (by k_mem)); k_whole)))
  trivial

abbrev treeDict (w : World) (aR : Addr) (t : Tok) (e₁ : Nat) : Obj := dictOf [ent w (Str.ofString "rows") t (.ref aR)] e₁

theorem row_spec {w : World} {aT dT aR : Addr} {t : Tok} {e₁ e₂ : Nat} {rs : List Value} {i : Nat} {ti : Tok} {r : Value} {FP : List (Addr × Obj)} {h : Heap}
    (h1 : (aT, instObj 309 dT) ∈ FP) (h2 : (dT, treeDict w aR t e₁) ∈ FP) (h3 : (aR, listOf rs.toArray e₂) ∈ FP) (hr : rs[i]? = some r) (hlen : rs.length < 1000) :
    Spec w (.ref 152) [.ref aT, .int i ti] 3 FP (fun v h' => v = r ∧ ∀ q ∈ FP, h'.get? q.1 = some q.2) h := by
  have hi : i < rs.length := (List.getElem?_eq_some_iff.mp hr).1
  refine enter (binds := [(Str.ofString "self", .ref aT), (Str.ofString "node", .int i ti)]) (by k_is) (by k_is) (fun s => BindsTo.of_eq rfl) (locs rfl) rfl rfl rfl (by decide) ?_
  intro dp un gd env outer A₀ base g L' h₁ p loose mean mg mb gs ds tk os B X T F N lt hdp hun kp
  k_fold
  k_steps
  exact ⟨_, _, _, rfl, by assumption, rfl, led_of (by assumption) (fun _ h => h)⟩

example : True := by
  k_with "!call ref" => (k_here; (with_reducible show wpAny _ _ (call (Value.ref 152) _) _ _ _); k_dflt (refine' use_ro (row_spec ?h1 ?h2 ?h3 ?hr ?hl) ?B ?F ?X ?T ?hf ?hk ?N ?hs ?hdp ?hun ?_; (case h1 => assumption); (case h2 => assumption); (case h3 => assumption); (case hr => assumption); (case hl => assumption); k_extra "!U"); intro zqv zqh zqtk zqF zqN zqka zqhv; subst zqhv; (try dsimp only))
  trivial

abbrev rowDict (w : World) (t1 t2 t3 t4 t5 t6 t7 t8 t9 : Tok) (vk vn vu vl vv vp : Value) (c a n : Addr) (ep : Nat) : Obj :=
  dictOf [ent w (Str.ofString "kind") t1 vk, ent w (Str.ofString "name") t2 vn, ent w (Str.ofString "uri") t3 vu, ent w (Str.ofString "local") t4 vl, ent w (Str.ofString "value") t5 vv, ent w (Str.ofString "parent") t6 vp,
    ent w (Str.ofString "children") t7 (.ref c), ent w (Str.ofString "attributes") t8 (.ref a), ent w (Str.ofString "namespaces") t9 (.ref n)] ep

theorem kind_spec {w : World} {aT dT aR r d c a n : Addr} {t t1 t2 t3 t4 t5 t6 t7 t8 t9 : Tok} {e₁ e₂ ep : Nat} {rs : List Value} {i : Nat} {ti : Tok} {vk vn vu vl vv vp : Value} {FP : List (Addr × Obj)} {h : Heap}
    (h1 : (aT, instObj 309 dT) ∈ FP) (h2 : (dT, treeDict w aR t e₁) ∈ FP) (h3 : (aR, listOf rs.toArray e₂) ∈ FP) (hr : rs[i]? = some (.ref r)) (hlen : rs.length < 1000)
    (h4 : (r, instObj 120 d) ∈ FP) (h5 : (d, rowDict w t1 t2 t3 t4 t5 t6 t7 t8 t9 vk vn vu vl vv vp c a n ep) ∈ FP) (hh : handedIn vk = true) :
    Spec w (.ref 229) [.ref aT, .int i ti] 6 FP (fun v h' => v = vk ∧ ∀ q ∈ FP, h'.get? q.1 = some q.2) h := by
  refine enter (binds := [(Str.ofString "self", .ref aT), (Str.ofString "node", .int i ti)]) (by k_is) (by k_is) (fun s => BindsTo.of_eq rfl) (locs rfl) rfl rfl rfl (by decide) ?_
  intro dp un gd env outer A₀ base g L' h₁ p loose mean mg mb gs ds tk os B X T F N lt hdp hun kp
  k_fold
  k_steps
  exact ⟨_, _, _, rfl, by assumption, rfl, led_of (by assumption) (fun _ h => h)⟩

theorem parent_spec {w : World} {aT dT aR r d c a n : Addr} {t t1 t2 t3 t4 t5 t6 t7 t8 t9 : Tok} {e₁ e₂ ep : Nat} {rs : List Value} {i : Nat} {ti : Tok} {vk vn vu vl vv vp : Value} {FP : List (Addr × Obj)} {h : Heap}
    (h1 : (aT, instObj 309 dT) ∈ FP) (h2 : (dT, treeDict w aR t e₁) ∈ FP) (h3 : (aR, listOf rs.toArray e₂) ∈ FP) (hr : rs[i]? = some (.ref r)) (hlen : rs.length < 1000)
    (h4 : (r, instObj 120 d) ∈ FP) (h5 : (d, rowDict w t1 t2 t3 t4 t5 t6 t7 t8 t9 vk vn vu vl vv vp c a n ep) ∈ FP) (hh : handedIn vp = true) :
    Spec w (.ref 264) [.ref aT, .int i ti] 6 FP (fun v h' => v = vp ∧ ∀ q ∈ FP, h'.get? q.1 = some q.2) h := by
  refine enter (binds := [(Str.ofString "self", .ref aT), (Str.ofString "node", .int i ti)]) (by k_is) (by k_is) (fun s => BindsTo.of_eq rfl) (locs rfl) rfl rfl rfl (by decide) ?_
  intro dp un gd env outer A₀ base g L' h₁ p loose mean mg mb gs ds tk os B X T F N lt hdp hun kp
  k_fold
  k_steps
  exact ⟨_, _, _, rfl, by assumption, rfl, led_of (by assumption) (fun _ h => h)⟩

theorem children_spec {w : World} {aT dT aR r d c a n : Addr} {t t1 t2 t3 t4 t5 t6 t7 t8 t9 : Tok} {e₁ e₂ ep ec : Nat} {rs cs : List Value} {i : Nat} {ti : Tok} {vk vn vu vl vv vp : Value} {FP : List (Addr × Obj)} {h : Heap}
    (h1 : (aT, instObj 309 dT) ∈ FP) (h2 : (dT, treeDict w aR t e₁) ∈ FP) (h3 : (aR, listOf rs.toArray e₂) ∈ FP) (hr : rs[i]? = some (.ref r)) (hlen : rs.length < 1000)
    (h4 : (r, instObj 120 d) ∈ FP) (h5 : (d, rowDict w t1 t2 t3 t4 t5 t6 t7 t8 t9 vk vn vu vl vv vp c a n ep) ∈ FP) (h6 : (c, listOf cs.toArray ec) ∈ FP) (hcs : cs.length < 1000) :
    Spec w (.ref 271) [.ref aT, .int i ti] 6 FP (fun v h' => (∃ D o, v = .ref D ∧ h.get? D = none ∧ h'.get? D = some o ∧ ∃ ed, o = listOf cs.toArray ed) ∧ ∀ q ∈ FP, h'.get? q.1 = some q.2) h := by
  refine enter (binds := [(Str.ofString "self", .ref aT), (Str.ofString "node", .int i ti)]) (by k_is) (by k_is) (fun s => BindsTo.of_eq rfl) (locs rfl) rfl rfl rfl (by decide) ?_
  intro dp un gd env outer A₀ base g L' h₁ p loose mean mg mb gs ds tk os B X T F N lt hdp hun kp
  k_fold
  k_steps
  rename Fr _ _ _ _ => F'
  rename News _ _ _ _ => N'
  rename AllLt _ _ => l1
  exact ⟨_, _, _, rfl, F', ⟨_, _, rfl, fresh_of kp N' (.head _) (ne_of_allLt l1), (N' _ (.head _)).1, _, rfl⟩, led_of N' (by walk_at "sub")⟩
end
section
example : True := by
  w_top off
  k_with_none
  k_with "!c1" => first | assumption | exact And.right (by k_extra "!c2") | fail
  k_with "!c2" => first | assumption | exact And.right (by k_extra "!c3") | fail
  k_with "!c3" => first | assumption | exact And.right (by k_extra "!c4") | fail
  k_with "!c4" => first | assumption | exact And.right (by k_extra "!c5") | fail
  k_with "!c5" => first | assumption | exact And.right (by k_extra "!c6") | fail
  k_with "!c6" => first | assumption | exact And.right (by k_extra "!c7") | fail
  k_with "!c7" => first | assumption | exact And.right (by k_extra "!c8") | fail
  k_with "!c8" => assumption
  k_with "!lt9" => with_reducible first | exact And.left (by k_extra "!c1") | exact And.right (by k_extra "!c1") | fail
  k_with "!omega" => with_reducible first | exact lt_dp (by assumption) (by with_unfolding_all exact rfl) | exact lt_un (by assumption) (by with_unfolding_all exact rfl) | assumption | exact Ne.symm (by assumption) | exact Nat.ne_of_lt (by assumption) | exact Nat.ne_of_gt (by assumption) | exact le_big (by assumption) (by with_unfolding_all exact rfl) | exact le_big2 (by assumption) (by with_unfolding_all exact rfl) | exact lt_big (by assumption) (by with_unfolding_all exact rfl) | exact Nat.le_of_ble_eq_true (by with_unfolding_all exact rfl) | exact Nat.ne_of_gt (lt_s (by assumption)) | exact Nat.ne_of_gt (lt_s (lt_s (by assumption))) | exact Nat.ne_of_gt (lt_s (lt_s (lt_s (by assumption)))) | exact Nat.ne_of_lt (by k_extra "!lt9") | exact Nat.ne_of_gt (by k_extra "!lt9") | (refine Nat.lt_of_lt_of_le ?_ (Nat.le_refl _); k_extra "!lt9") | fail
  k_with "!call builtin:len" => (k_here; (with_reducible show wpAny _ _ (call (Value.builtin "len") [Value.ref _]) _ _ _); k_dflt (refine' L_len ?N ?m ?z ?_; (case N => k_asm); (case m => k_mem); (case z => omega); k_whole))
  k_with "!item" => first | (k_here; (with_reducible show wpAny _ _ (subscriptTail _ _ (Value.ref _) (Value.int _ _)) _ _ _); k_dflt (refine' kim_list ?N ?m ?c ?d ?z ?f ?x ?_; (case N => k_asm); (case m => k_mem); (case c => rfl); (case d => rfl); (case z => omega); (case f => omega); (case x => (try simp only [Int.toNat_natCast]); first | assumption | rfl | exact List.getElem?_eq_getElem (by omega)); k_whole)) | (k_here; (with_reducible show wpAny _ _ (subscriptTail _ _ (Value.ref _) (Value.int _ _)) _ _ _); k_dflt (refine' kda_item (knd := PySem.intKind _ _) ?N ?m ?d (intKind_is _ _ _ _) ?v ?_; (case N => k_asm); (case d => assumption); (case m => k_mem); (case v => assumption); k_whole))
  k_with "!subscriptTail Name Constant ref int" => k_extra "!item"
  k_with "!k_all" => first | exact ne_of_allLt (by assumption) | exact ne_of_allLt (And.right (by assumption)) | exact ne_of_allLt (And.right (And.right (by assumption)))
  k_with "!k_handed" => with_reducible assumption
  k_with "!k_all" => first | exact ne_of_allNe (by assumption) | exact ne_of_allNe (And.right (by assumption)) | exact ne_of_allNe (And.right (And.right (by assumption)))
  k_with "!subscriptTail Name Call ref int" => k_extra "!item"
  k_with "!call ref" => k_extra "call ref"
  k_with "!k_all" => first | exact ne_of_lts2 (by assumption) | (with_reducible assumption)
  k_with "!k_mem" => assumption
  k_with "!callWith ref" => (k_here; k_dflt (first | (refine' callWith_K ?k1 ?k2 ?_; (case k1 => k_asm); (case k2 => k_is); k_whole) | (refine' callWith_K0 ?k1 ?k2 ?_; (case k1 => k_in); (case k2 => k_is); k_whole) | (refine' callWith_M0 ?k1 ?k2 ?_; (case k1 => k_meth); (case k2 => k_is); k_whole; try dsimp only [List.nil_append, List.cons_append]) | (refine' callWith_M ?k1 ?k2 ?k3 ?k4 ?_; (case k1 => k_asm); (case k2 => k_asm); (case k3 => k_mem); (case k4 => k_is); k_whole) | (refine' callWith_F ?k1 ?_; (case k1 => exact FnAt.of (by k_asm) (by k_mem)); k_whole)))
  trivial

theorem take_spec {w : World} {src : Addr} {x y k : Int} {tx ty tk0 : Tok} {n : Nat} {h : Heap} (hk : 0 < k) (hk2 : k < 100) (hy : 0 ≤ y) (hy2 : y < 2147483648) :
    Spec w (.ref 327) [.ref src, .int k tk0] 3 [(src, listOf #[.int x tx, .int y ty] n)]
      (fun v h' => ∃ o', h'.get? src = some o' ∧ ∃ r t x' tx' y' ty' n', v = .int r t ∧ 0 ≤ r ∧ r < k ∧ 0 ≤ y' ∧ y' < 2147483648 ∧ o' = listOf #[.int x' tx', .int y' ty'] n') h := by
  refine enter (binds := [(Str.ofString "source", .ref src), (Str.ofString "top", .int k tk0)]) (by k_is) (by k_is) (fun s => BindsTo.of_eq rfl) (locs rfl) rfl rfl rfl (by decide) ?_
  intro dp un gd env outer A₀ base g L' h₁ p loose mean mg mb gs ds tk os B X T F N lt hdp hun kp
  k_fold
  have hb1 := fmod_lo (y * 39373 + 7) (n := 2147483647) (by decide)
  have hb2 := fmod_hi (y * 39373 + 7) (n := 2147483647) (by decide)
  k_steps
  · rename_i N'
    exact ⟨_, _, _, rfl, by assumption, _, (N' _ (.head _)).1, _, _, _, _, _, _, _, rfl, fmod_lo _ hk, fmod_hi _ hk, hy, hy2, rfl⟩
  · rename_i N'
    refine ⟨_, _, _, rfl, by assumption, _, (N' _ (.head _)).1, _, _, _, _, _, _, _, rfl, fmod_lo _ hk, fmod_hi _ hk, fmod_lo _ (by decide), ?_, rfl⟩
    exact Int.lt_trans (fmod_hi _ (by decide)) (by decide)

theorem pool_spec {w : World} {l : Addr} {vs : List Value} {ns : List Int} {h : Heap} (hl : ∃ n, h.get? l = some (listOf vs.toArray n)) (hi : IntsAre vs ns) (hz : ns.length < 1000) :
    Spec w (.ref 320) [.ref l] 3 [] (fun v h' => ∃ D x tx y ty n, v = .ref D ∧ h.get? D = none ∧ 0 ≤ y ∧ y < 2147483648 ∧ h'.get? D = some (listOf #[.int x tx, .int y ty] n)) h := by
  obtain ⟨nl, hl⟩ := hl
  refine enter (binds := [(Str.ofString "script", .ref l)]) (by k_is) (by k_is) (fun s => BindsTo.of_eq rfl) (locs rfl) rfl rfl rfl (by decide) ?_
  intro dp un gd env outer A₀ base g L' h₁ p loose mean mg mb gs ds tk os B X T F N lt hdp hun kp
  k_fold
  have hlg : g.IsList l vs.toArray := ⟨_, kp _ _ (by simp) hl, rfl, nl, rfl⟩
  k_steps
  all_goals
    rename_i N' l1
    exact ⟨_, _, _, rfl, by assumption, _, _, _, _, _, _, rfl, fresh_of kp N' (.head _) (fun _ h => nomatch h), fmod_lo _ (by decide), Int.lt_trans (fmod_hi _ (by decide)) (by decide), (N' _ (.head _)).1⟩

example : True := by
  k_with "!U2" => ((case B => assumption); (case F => k_asm); (case X => assumption); (case T => assumption); (case hf => exact rfl); (case hk => exact rfl); (case N => k_asm); (case U => k_updF); (case hdp => ((try dsimp only); omega)); (case hun => ((try dsimp only); omega)); k_whole)
  k_with "!call ref" => (k_here; (with_reducible show wpAny _ _ (call (Value.ref 327) _) _ _ _); k_dflt (refine' use_upd (take_spec ?h1 ?h2 ?h3 ?h4) ?B ?F ?X ?T ?hf ?hk ?N ?U ?hdp ?hun ?_; (case h1 => omega); (case h2 => omega); (case h3 => assumption); (case h4 => assumption); k_extra "!U2"); rintro zqv zqo zqh zqtk zqF zqN ⟨zqr, zqt, zqx, zqtx, zqy, zqty, zqn, zqev, zqr0, zqr1, zqy0, zqy1, zqeo⟩; subst zqev; subst zqeo; (try dsimp only))
  trivial

theorem one_spec {w : World} {src l : Addr} {x y : Int} {tx ty : Tok} {n nl : Nat} {vs : List Value} {h : Heap} (hz : 0 < vs.length) (hz2 : vs.length < 100) (hy : 0 ≤ y) (hy2 : y < 2147483648) (hne : @Ne Nat src l) :
    Spec w (.ref 334) [.ref src, .ref l] 5 [(src, listOf #[.int x tx, .int y ty] n), (l, listOf vs.toArray nl)]
      (fun v h' => (∃ x' tx' y' ty' n', 0 ≤ y' ∧ y' < 2147483648 ∧ h'.get? src = some (listOf #[.int x' tx', .int y' ty'] n')) ∧ h'.get? l = some (listOf vs.toArray nl) ∧ v ∈ vs) h := by
  refine enter (binds := [(Str.ofString "source", .ref src), (Str.ofString "things", .ref l)]) (by k_is) (by k_is) (fun s => BindsTo.of_eq rfl) (locs rfl) rfl rfl rfl (by decide) ?_
  intro dp un gd env outer A₀ base g L' h₁ p loose mean mg mb gs ds tk os B X T F N lt hdp hun kp
  k_fold
  k_steps
  · rename News _ _ _ _ => N'
    exact ⟨_, _, _, rfl, by assumption, ⟨_, _, _, _, _, by assumption, by assumption, (N' _ (.head _)).1⟩, (N' _ (.tail _ (.head _))).1, List.getElem_mem _⟩
end
section
example : True := by
  w_top off
  k_with_none
  k_with "!c1" => first | assumption | exact And.right (by k_extra "!c2") | fail
  k_with "!c2" => first | assumption | exact And.right (by k_extra "!c3") | fail
  k_with "!c3" => first | assumption | exact And.right (by k_extra "!c4") | fail
  k_with "!c4" => first | assumption | exact And.right (by k_extra "!c5") | fail
  k_with "!c5" => first | assumption | exact And.right (by k_extra "!c6") | fail
  k_with "!c6" => first | assumption | exact And.right (by k_extra "!c7") | fail
  k_with "!c7" => first | assumption | exact And.right (by k_extra "!c8") | fail
  k_with "!c8" => assumption
  k_with "!lt9" => with_reducible first | exact And.left (by k_extra "!c1") | exact And.right (by k_extra "!c1") | fail
  k_with "!omega" => with_reducible first | exact lt_dp (by assumption) (by with_unfolding_all exact rfl) | exact lt_un (by assumption) (by with_unfolding_all exact rfl) | assumption | exact Ne.symm (by assumption) | exact Nat.ne_of_lt (by assumption) | exact Nat.ne_of_gt (by assumption) | exact le_big (by assumption) (by with_unfolding_all exact rfl) | exact le_big2 (by assumption) (by with_unfolding_all exact rfl) | exact lt_big (by assumption) (by with_unfolding_all exact rfl) | exact Nat.le_of_ble_eq_true (by with_unfolding_all exact rfl) | exact Nat.ne_of_gt (lt_s (by assumption)) | exact Nat.ne_of_gt (lt_s (lt_s (by assumption))) | exact Nat.ne_of_gt (lt_s (lt_s (lt_s (by assumption)))) | exact Nat.ne_of_lt (by k_extra "!lt9") | exact Nat.ne_of_gt (by k_extra "!lt9") | (refine Nat.lt_of_lt_of_le ?_ (Nat.le_refl _); k_extra "!lt9") | fail
  k_with "!call builtin:len" => (k_here; (with_reducible show wpAny _ _ (call (Value.builtin "len") [Value.ref _]) _ _ _); k_dflt (refine' L_len ?N ?m ?z ?_; (case N => k_asm); (case m => k_mem); (case z => omega); k_whole))
  k_with "!item" => first | (k_here; (with_reducible show wpAny _ _ (subscriptTail _ _ (Value.ref _) (Value.int _ _)) _ _ _); k_dflt (refine' kim_list ?N ?m ?c ?d ?z ?f ?x ?_; (case N => k_asm); (case m => k_mem); (case c => rfl); (case d => rfl); (case z => omega); (case f => omega); (case x => (try simp only [Int.toNat_natCast]); first | assumption | rfl | exact List.getElem?_eq_getElem (by omega)); k_whole)) | (k_here; (with_reducible show wpAny _ _ (subscriptTail _ _ (Value.ref _) (Value.int _ _)) _ _ _); k_dflt (refine' kda_item (knd := PySem.intKind _ _) ?N ?m ?d (intKind_is _ _ _ _) ?v ?_; (case N => k_asm); (case d => assumption); (case m => k_mem); (case v => assumption); k_whole))
  k_with "!subscriptTail" => k_extra "!item"
  k_with "!subscriptTail Name Constant ref int" => k_extra "!item"
  k_with "!subscriptTail Name Name ref int" => k_extra "!item"
  k_with "!k_all" => first | exact ne_of_allLt (by assumption) | exact ne_of_allLt (And.right (by assumption)) | exact ne_of_allLt (And.right (And.right (by assumption)))
  k_with "!sub" => first | exact fun _ h => h | (with_reducible assumption) | exact sub_app (by assumption) | exact sub_app (fun _ h => h) | exact (fun _ h => List.mem_append_right _ h) | (refine sub_cc ?_; k_extra "!sub") | (refine sub_tl ?_; k_extra "!sub")
  k_with "!U" => ((case B => assumption); (case F => k_asm); (case X => assumption); (case T => assumption); (case hf => exact rfl); (case hk => exact rfl); (case N => k_asm); (case hs => k_extra "!sub"); (case hdp => ((try dsimp only); omega)); (case hun => ((try dsimp only); omega)); k_whole)
  k_with "!k_handed" => with_reducible assumption
  k_with "!call type:list" => (k_here; (with_reducible show wpAny _ _ (call (Value.type "list") [Value.ref _]) _ _ _); k_dflt (refine' L_copy ?F ?N ?m ?z ?_; (case F => k_asm); (case N => k_asm); (case m => k_mem); (case z => omega); k_whole); intro zqD zqc zqh zqF zqN zql1; (try simp only [AllLt, and_true] at zql1))
  k_with "!k_all" => first | exact ne_of_allNe (by assumption) | exact ne_of_allNe (And.right (by assumption)) | exact ne_of_allNe (And.right (And.right (by assumption)))
  k_with "!subscriptTail Name Call ref int" => k_extra "!item"
  k_with "!exec While Compare cons nil" => k_extra "exec While Compare cons nil"
  k_with "!call ref" => k_extra "call ref"
  k_with "!k_all" => first | exact ne_of_lts2 (by assumption) | (with_reducible assumption)
  k_with "!k_mem" => assumption
  k_with "!callWith ref" => (k_here; k_dflt (first | (refine' callWith_K ?k1 ?k2 ?_; (case k1 => k_asm); (case k2 => k_is); k_whole) | (refine' callWith_K0 ?k1 ?k2 ?_; (case k1 => k_in); (case k2 => k_is); k_whole) | (refine' callWith_M0 ?k1 ?k2 ?_; (case k1 => k_meth); (case k2 => k_is); k_whole; try dsimp only [List.nil_append, List.cons_append]) | (refine' callWith_M ?k1 ?k2 ?k3 ?k4 ?_; (case k1 => k_asm); (case k2 => k_asm); (case k3 => k_mem); (case k4 => k_is); k_whole) | (refine' callWith_F ?k1 ?_; (case k1 => exact FnAt.of (by k_asm) (by k_mem)); k_whole)))
  k_with "!exec For Name Call cons nil" => k_extra "exec For"
  k_with "!exec For Name Name cons nil" => k_extra "exec For"
  k_with "!exec For Name Attribute cons nil" => k_extra "exec For"
  k_with "!pyIter ref" => k_extra "pyIter ref"
  k_with "!revslice" => (k_here; (with_reducible show wpAny _ _ (subscriptTail _ (PySem.Expr.Slice none none (some _) _) (Value.ref _) (Value.ref _)) _ _ _); k_dflt (refine' krv_ints ?F ?N ?l ?k ?i ?_ ?s ?t ?z; (case F => k_asm); (case N => k_asm); (case l => exact L_isList (by k_asm) (by k_mem)); (case k => exact IsPart.int _ _); (case i => assumption); (case s => with_unfolding_all rfl); (case t => (intro _; with_unfolding_all rfl)); (case z => (rw [List.size_toArray, sizeLine_eq]; omega))); intro zqD zqws zqh zqF zqN zql1 zqhI zqhC; (have zqhW := IntsAre.length zqhI); (replace zql1 := allLt_of zql1); (try simp only [AllLt, and_true] at zql1))
  k_with "!subscriptTail Name Slice ref ref" => k_extra "!revslice"
  k_with "!subscriptTail Subscript Slice ref ref" => k_extra "!revslice"
  k_with "!subscriptTail Subscript Constant ref int" => k_extra "!item"
  k_with "!compareOp In int ref" => (k_here; k_dflt (refine' in_list_ints ?hl ?hi ?_; (case hl => exact L_isList (by k_asm) (by k_mem)); (case hi => assumption); k_whole))
  trivial

theorem pins_eq {m : Str → Option Value} : ∀ {l : List (Str × Value)}, (∀ p ∈ l, m p.1 = some p.2) → ∀ y, (l.lookup y).or (m y) = m y
  | [], _, y => rfl
  | (k, v) :: r, h, y => by
    rw [List.lookup_cons]
    by_cases e : y = k
    · subst e; simp [h (y, v) (.head _)]
    · rw [show (y == k) = false from by simpa using e]
      exact pins_eq (fun p hp => h p (.tail _ hp)) y
theorem fr_pins {h₀ h : Heap} {L : Addr} {m : Str → Option Value} {l : List (Str × Value)} (F : Fr h₀ L h m) (e : ∀ p ∈ l, m p.1 = some p.2) : Fr h₀ L h (fun y => (l.lookup y).or (m y)) := by
  rw [funext (pins_eq e)]; exact F
theorem fr_pinsX {h₀ h : Heap} {L : Addr} {m : Str → Option Value} {l : List (Str × Value)} {x : Str} {v : Value} (F : Fr h₀ L h (fun y => if y = x then some v else m y)) (e : ∀ p ∈ l, m p.1 = some p.2) : Fr h₀ L h (fun y => if y = x then some v else (l.lookup y).or (m y)) := by
  have q : m = fun y => (l.lookup y).or (m y) := (funext (pins_eq e)).symm
  have q2 : (fun y => if y = x then some v else (l.lookup y).or (m y)) = fun y => if y = x then some v else m y := by
    funext y; rw [congrFun q.symm y]
  rw [q2]; exact F
def natInts (l : List Nat) : List Int := l.map (fun i : Nat => (i : Int))
theorem any_natInts {l : List Nat} {c : Nat} : (natInts l).any (fun x => x == (c : Int)) = l.contains c := by
  induction l with
  | nil => rfl
  | cons a r ih => simp only [natInts, List.map_cons, List.any_cons, List.contains_cons] at ih ⊢; rw [ih]; congr 1; rw [Bool.eq_iff_iff]; simp only [beq_iff_eq]; omega
theorem natInts_get {l : List Nat} {k : Nat} {us : List Value} {v : Value} (h : IntsAre us (natInts l)) (e : us[k]? = some v) : ∃ c t, l[k]? = some c ∧ v = .int (c : Int) t := by
  have hk : k < us.length := (List.getElem?_eq_some_iff.mp e).1
  have hl : k < l.length := by rw [h.length] at hk; simpa [natInts] using hk
  obtain ⟨t, ht⟩ := h.get k (l[k] : Int) (by simp [natInts, hl])
  rw [e] at ht
  exact ⟨l[k], t, by simp, Option.some.inj ht⟩
theorem all2 {α : Type} {P : α → Prop} {a b : α} (h1 : P a) (h2 : P b) : ∀ p ∈ [a, b], P p := fun p hp => by
  rcases List.mem_cons.mp hp with rfl | hp; exact h1
  rw [List.mem_singleton.mp hp]; exact h2
theorem allC {α : Type} {P : α → Prop} {a : α} {l : List α} (h1 : P a) (h2 : ∀ p ∈ l, P p) : ∀ p ∈ a :: l, P p := fun p hp => by
  rcases List.mem_cons.mp hp with rfl | hp; exact h1; exact h2 p hp

/-- a goal that the walk leaves alone -/
structure Hold (P : Prop) : Prop where
  out : P
section
variable {prog : Program} {w : World} {A : Around} {E : Value → Shared → Prop} {Q : Flow → Shared → Prop} {s : Shared} {env : Env} {h₀ : Heap} {L : Addr}
theorem while_my {test : Expr} {body : List Stmt} {pos : Pos} {m : Str → Option Value} {news : List (Addr × Obj)} (J : Nat → (Str → Option Value) → List (Addr × Obj) → Prop) {n₀ : Nat}
    (F : Fr h₀ L s.heap m) (N : News h₀ L s.heap news) (hJ : Hold (J n₀ m news))
    (turn : Hold (∀ n m₁ news₁ h₁ tk₁, Fr h₀ L h₁ m₁ → News h₀ L h₁ news₁ → J n m₁ news₁ →
      wpAny (model prog w) A (isTrue test env (eval test env)) (fun b s₂ =>
        if b = true then wpAny (model prog w) A (execs body env) (WhileStep2 h₀ L s J Q n) E s₂ else Q .next s₂) E { s with heap := h₁, toks := tk₁ }))
    (hE : PassesOwn (model prog w) A env E) : wpAny (model prog w) A (exec (.While test body [] pos) env) Q E s := While_inv2 J F N hJ.out turn.out hE
end

/-- frames as written lists of binds -/
theorem map_x {x : Str} {v : Value} {m : Str → Option Value} {l : List (Str × Value)} (h : ∀ y, y ≠ x → m y = l.lookup y) : (fun y => if y = x then some v else m y) = fun y => ((x, v) :: l).lookup y := by
  funext y
  rw [List.lookup_cons]
  by_cases e : y = x
  · subst e; simp
  · rw [if_neg e, show (y == x) = false from by simpa using e]; exact h y e

section
variable {prog : Program} {w : World} {A : Around} {E : Value → Shared → Prop} {Q : Flow → Shared → Prop} {s : Shared} {env : Env} {h₀ : Heap} {x : Str} {body : List Stmt}
theorem iter_my {l : Addr} {vs : List Value} {nn : Nat} {m₀ : Str → Option Value} {news : List (Addr × Obj)} (J : Nat → (Str → Option Value) → List (Addr × Obj) → Prop)
    (hh : A.handled = none) (hl : (l, listOf vs.toArray nn) ∈ news) (F : Fr h₀ env.locals s.heap m₀) (N : News h₀ env.locals s.heap news) (hj : Hold (J 0 m₀ news))
    (turn : Hold (∀ i v m₁ news₁ h tk own, vs[i]? = some v → OwnOff own (news₁.map (·.1)) → (l, listOf vs.toArray nn) ∈ news₁ → J i m₁ news₁ → Fr h₀ env.locals h (fun y => if y = x then some v else m₁ y) → News h₀ env.locals h (news₁ ++ own) →
      wpAny (model prog w) A (execs body env) (InvPostG h₀ env.locals (fun m' nx => (l, listOf vs.toArray nn) ∈ nx ∧ J (i + 1) m' nx) own { s with heap := h, toks := tk } Q) E { s with heap := h, toks := tk }))
    (done : Hold (∀ m₁ news₁ h tk, J vs.length m₁ news₁ → Fr h₀ env.locals h m₁ → News h₀ env.locals h news₁ → Q .next { s with heap := h, toks := tk })) :
    wpAny (model prog w) A (pyIter (.ref l)) (fun it s₂ => LoopAtV prog w A h₀ env x body Q E it s₂) E s := kdl_iter J hh hl F N hj.out turn.out done.out
end

/-- a row of the tree's store -/
structure RowC where
  (r d c a n : Addr)
  (t1 t2 t3 t4 t5 t6 t7 t8 t9 : Tok)
  (ep ec ea en : Nat)
  (vk vn vu vl vv vp : Value)
  (cs as ns : List Value)
def RowC.dict (w : World) (R : RowC) : Obj := rowDict w R.t1 R.t2 R.t3 R.t4 R.t5 R.t6 R.t7 R.t8 R.t9 R.vk R.vn R.vu R.vl R.vv R.vp R.c R.a R.n R.ep
def RowC.led (w : World) (R : RowC) : List (Addr × Obj) := [(R.r, instObj 120 R.d), (R.d, R.dict w), (R.c, listOf R.cs.toArray R.ec), (R.a, listOf R.as.toArray R.ea), (R.n, listOf R.ns.toArray R.en)]
structure TreeC where
  (aT dT aR : Addr)
  (t : Tok)
  (e₁ e₂ : Nat)
  (rows : List RowC)
def TreeC.refs (τ : TreeC) : List Value := τ.rows.map fun R => .ref R.r
def TreeC.led (w : World) (τ : TreeC) : List (Addr × Obj) := (τ.aT, instObj 309 τ.dT) :: (τ.dT, treeDict w τ.aR τ.t τ.e₁) :: (τ.aR, listOf τ.refs.toArray τ.e₂) :: τ.rows.flatMap (RowC.led w)

theorem TreeC.at {w : World} {τ : TreeC} {i : Nat} {R : RowC} (h : τ.rows[i]? = some R) : ∀ q ∈ R.led w, q ∈ τ.led w := fun _ hq =>
  .tail _ (.tail _ (.tail _ (List.mem_flatMap.mpr ⟨R, List.mem_of_getElem? h, hq⟩)))
theorem TreeC.ref {τ : TreeC} {i : Nat} {R : RowC} (h : τ.rows[i]? = some R) : τ.refs[i]? = some (.ref R.r) := by
  unfold TreeC.refs; rw [List.getElem?_map, h]; rfl

section
variable {w : World} {τ : TreeC} {i : Nat} {R : RowC} {ti : Tok} {FP : List (Addr × Obj)} {h : Heap}
theorem kindT (hs : ∀ q ∈ τ.led w, q ∈ FP) (hR : τ.rows[i]? = some R) (hlen : τ.rows.length < 1000) (hh : handedIn R.vk = true) :
    Spec w (.ref 229) [.ref τ.aT, .int i ti] 6 FP (fun v h' => v = R.vk ∧ ∀ q ∈ FP, h'.get? q.1 = some q.2) h :=
  kind_spec (hs _ (.head _)) (hs _ (.tail _ (.head _))) (hs _ (.tail _ (.tail _ (.head _)))) (TreeC.ref hR) (by simpa [TreeC.refs] using hlen) (hs _ (TreeC.at hR _ (.head _))) (hs _ (TreeC.at hR _ (.tail _ (.head _)))) hh
theorem parentT (hs : ∀ q ∈ τ.led w, q ∈ FP) (hR : τ.rows[i]? = some R) (hlen : τ.rows.length < 1000) (hh : handedIn R.vp = true) :
    Spec w (.ref 264) [.ref τ.aT, .int i ti] 6 FP (fun v h' => v = R.vp ∧ ∀ q ∈ FP, h'.get? q.1 = some q.2) h :=
  parent_spec (hs _ (.head _)) (hs _ (.tail _ (.head _))) (hs _ (.tail _ (.tail _ (.head _)))) (TreeC.ref hR) (by simpa [TreeC.refs] using hlen) (hs _ (TreeC.at hR _ (.head _))) (hs _ (TreeC.at hR _ (.tail _ (.head _)))) hh
theorem childrenT (hs : ∀ q ∈ τ.led w, q ∈ FP) (hR : τ.rows[i]? = some R) (hlen : τ.rows.length < 1000) (hc : R.cs.length < 1000) :
    Spec w (.ref 271) [.ref τ.aT, .int i ti] 6 FP (fun v h' => (∃ D o, v = .ref D ∧ h.get? D = none ∧ h'.get? D = some o ∧ ∃ ed, o = listOf R.cs.toArray ed) ∧ ∀ q ∈ FP, h'.get? q.1 = some q.2) h :=
  children_spec (hs _ (.head _)) (hs _ (.tail _ (.head _))) (hs _ (.tail _ (.tail _ (.head _)))) (TreeC.ref hR) (by simpa [TreeC.refs] using hlen) (hs _ (TreeC.at hR _ (.head _))) (hs _ (TreeC.at hR _ (.tail _ (.head _)))) (hs _ (TreeC.at hR _ (.tail _ (.tail _ (.head _))))) hc
end

/-- what the store says of nodes, as plain data: kinds, parents, children -/
structure Shape where
  n : Nat
  kind : Nat → Str
  par : Nat → Option Nat
  ch : Nat → List Nat
def IsPar (v : Value) (o : Option Nat) : Prop := match o with
  | none => v = .none
  | some j => ∃ t, v = .int (j : Int) t
theorem IsPar.handed {v : Value} {o : Option Nat} (h : IsPar v o) : handedIn v = true := by
  cases o with
  | none => rw [show v = .none from h]; rfl
  | some j => obtain ⟨t, rfl⟩ := h; rfl
structure Shape.Of (S : Shape) (τ : TreeC) : Prop where
  len : τ.rows.length = S.n
  small : S.n < 200
  row : ∀ i, i < S.n → ∃ R, τ.rows[i]? = some R ∧ (∃ tk, R.vk = .str (S.kind i) tk) ∧ IsPar R.vp (S.par i) ∧ IntsAre R.cs (natInts (S.ch i))
  below : ∀ i j, i < S.n → S.par i = some j → j < i
  chs : ∀ i, i < S.n → (S.ch i).length ≤ S.n ∧ ∀ j ∈ S.ch i, j < S.n

/-- a node and those above it -/
def Shape.anc (S : Shape) : Nat → Nat → List Nat
  | 0, _ => []
  | f + 1, i => i :: (match S.par i with | none => [] | some j => S.anc f j)
end
section
example : True := by
  w_top off
  k_with_none
  k_with "!c1" => first | assumption | exact And.right (by k_extra "!c2") | fail
  k_with "!c2" => first | assumption | exact And.right (by k_extra "!c3") | fail
  k_with "!c3" => first | assumption | exact And.right (by k_extra "!c4") | fail
  k_with "!c4" => first | assumption | exact And.right (by k_extra "!c5") | fail
  k_with "!c5" => first | assumption | exact And.right (by k_extra "!c6") | fail
  k_with "!c6" => first | assumption | exact And.right (by k_extra "!c7") | fail
  k_with "!c7" => first | assumption | exact And.right (by k_extra "!c8") | fail
  k_with "!c8" => assumption
  k_with "!lt9" => with_reducible first | exact And.left (by k_extra "!c1") | exact And.right (by k_extra "!c1") | fail
  k_with "!omega" => with_reducible first | exact lt_dp (by assumption) (by with_unfolding_all exact rfl) | exact lt_un (by assumption) (by with_unfolding_all exact rfl) | assumption | exact Ne.symm (by assumption) | exact Nat.ne_of_lt (by assumption) | exact Nat.ne_of_gt (by assumption) | exact le_big (by assumption) (by with_unfolding_all exact rfl) | exact le_big2 (by assumption) (by with_unfolding_all exact rfl) | exact lt_big (by assumption) (by with_unfolding_all exact rfl) | exact Nat.le_of_ble_eq_true (by with_unfolding_all exact rfl) | exact Nat.ne_of_gt (lt_s (by assumption)) | exact Nat.ne_of_gt (lt_s (lt_s (by assumption))) | exact Nat.ne_of_gt (lt_s (lt_s (lt_s (by assumption)))) | exact Nat.ne_of_lt (by k_extra "!lt9") | exact Nat.ne_of_gt (by k_extra "!lt9") | (refine Nat.lt_of_lt_of_le ?_ (Nat.le_refl _); k_extra "!lt9") | fail
  k_with "!k_all" => first | exact ne_of_allLt (by assumption) | exact ne_of_allLt (And.right (by assumption)) | exact ne_of_allLt (And.right (And.right (by assumption)))
  k_with "!sub" => first | exact fun _ h => h | (with_reducible assumption) | exact sub_app (by assumption) | exact sub_app (fun _ h => h) | exact (fun _ h => List.mem_append_right _ h) | (refine sub_cc ?_; k_extra "!sub") | (refine sub_tl ?_; k_extra "!sub")
  k_with "!U" => ((case B => assumption); (case F => k_asm); (case X => assumption); (case T => assumption); (case hf => exact rfl); (case hk => exact rfl); (case N => k_asm); (case hs => k_extra "!sub"); (case hdp => ((try dsimp only); omega)); (case hun => ((try dsimp only); omega)); k_whole)
  k_with "!k_handed" => with_reducible assumption
  k_with "!k_all" => first | exact ne_of_allNe (by assumption) | exact ne_of_allNe (And.right (by assumption)) | exact ne_of_allNe (And.right (And.right (by assumption)))
  k_with "!exec While Compare cons nil" => k_extra "exec While Compare cons nil"
  k_with "!call ref" => k_extra "call ref"
  k_with "!k_all" => first | exact ne_of_lts2 (by assumption) | (with_reducible assumption)
  k_with "!k_mem" => assumption
  k_with "!callWith ref" => (k_here; k_dflt (first | (refine' callWith_K ?k1 ?k2 ?_; (case k1 => k_asm); (case k2 => k_is); k_whole) | (refine' callWith_K0 ?k1 ?k2 ?_; (case k1 => k_in); (case k2 => k_is); k_whole) | (refine' callWith_M0 ?k1 ?k2 ?_; (case k1 => k_meth); (case k2 => k_is); k_whole; try dsimp only [List.nil_append, List.cons_append]) | (refine' callWith_M ?k1 ?k2 ?k3 ?k4 ?_; (case k1 => k_asm); (case k2 => k_asm); (case k3 => k_mem); (case k4 => k_is); k_whole) | (refine' callWith_F ?k1 ?_; (case k1 => exact FnAt.of (by k_asm) (by k_mem)); k_whole)))
  trivial

theorem ints_snoc {us : List Value} {ns : List Int} {i : Int} {t : Tok} (h : IntsAre us ns) : IntsAre (us ++ [.int i t]) (ns ++ [i]) := IntsAre.append h (.cons _ _ .nil)

theorem Shape.anc_len (S : Shape) : ∀ f i, (S.anc f i).length ≤ f
  | 0, _ => Nat.le_refl _
  | f + 1, i => by
    unfold Shape.anc
    cases S.par i with
    | none => simp
    | some j => simp only [List.length_cons]; have := S.anc_len f j; omega
/-- what is still to come, of a node or none -/
def Shape.up (S : Shape) (o : Option Nat) : List Nat := match o with | none => [] | some j => S.anc (j + 1) j
theorem Shape.anc_fuel {S : Shape} {τ : TreeC} (hS : S.Of τ) : ∀ f i, i < S.n → i < f → S.anc f i = S.anc (i + 1) i := by
  intro f
  induction f using Nat.strongRecOn with
  | ind f ih =>
    intro i hi hf
    cases f with
    | zero => omega
    | succ f =>
      unfold Shape.anc
      cases hp : S.par i with
      | none => rfl
      | some j =>
        have hj := hS.below i j hi hp
        simp only
        rw [ih f (Nat.lt_succ_self f) j (by omega) (by omega)]
        by_cases hif : i = f
        · rw [hif, ih f (Nat.lt_succ_self f) j (by omega) (by omega)]
        · rw [ih i (by omega) j (by omega) (by omega)]
theorem Shape.up_some {S : Shape} {τ : TreeC} (hS : S.Of τ) {i : Nat} (hi : i < S.n) : S.up (some i) = i :: S.up (S.par i) := by
  show S.anc (i + 1) i = _
  rw [Shape.anc]
  cases hp : S.par i with
  | none => rfl
  | some j => simp only [Shape.up]; rw [Shape.anc_fuel hS i j (by have := hS.below i j hi hp; omega) (hS.below i j hi hp)]

theorem ancestors_spec {w : World} {S : Shape} {τ : TreeC} (hS : S.Of τ) {i : Nat} {ti : Tok} (hi : i < S.n) {FP : List (Addr × Obj)} (hs : ∀ q ∈ τ.led w, q ∈ FP) {h : Heap} :
    Spec w (.ref 28) [.ref τ.aT, .int i ti] 9 FP (fun v h' => (∃ D o, v = .ref D ∧ h.get? D = none ∧ h'.get? D = some o ∧ ∃ us ed, o = listOf us.toArray ed ∧ IntsAre us (natInts (S.up (some i)))) ∧ ∀ q ∈ FP, h'.get? q.1 = some q.2) h := by
  refine enter (binds := [(Str.ofString "tree", .ref τ.aT), (Str.ofString "node", .int i ti)]) (by k_is) (by k_is) (fun s => BindsTo.of_eq rfl) (locs rfl) rfl rfl rfl (by decide) ?_
  intro dp un gd env outer A₀ base g L' h₁ p loose mean mg mb gs ds tk os B X T F N lt hdp hun kp
  k_fold
  k_with_none
  k_with "!c1" => first | assumption | exact And.right (by k_extra "!c2") | fail
  k_with "!c2" => first | assumption | exact And.right (by k_extra "!c3") | fail
  k_with "!c3" => first | assumption | exact And.right (by k_extra "!c4") | fail
  k_with "!c4" => first | assumption | exact And.right (by k_extra "!c5") | fail
  k_with "!c5" => first | assumption | exact And.right (by k_extra "!c6") | fail
  k_with "!c6" => first | assumption | exact And.right (by k_extra "!c7") | fail
  k_with "!c7" => first | assumption | exact And.right (by k_extra "!c8") | fail
  k_with "!c8" => assumption
  k_with "!lt9" => with_reducible first | exact And.left (by k_extra "!c1") | exact And.right (by k_extra "!c1") | fail
  k_with "!omega" => with_reducible first | exact lt_dp (by assumption) (by with_unfolding_all exact rfl) | exact lt_un (by assumption) (by with_unfolding_all exact rfl) | assumption | exact Ne.symm (by assumption) | exact Nat.ne_of_lt (by assumption) | exact Nat.ne_of_gt (by assumption) | exact le_big (by assumption) (by with_unfolding_all exact rfl) | exact le_big2 (by assumption) (by with_unfolding_all exact rfl) | exact lt_big (by assumption) (by with_unfolding_all exact rfl) | exact Nat.le_of_ble_eq_true (by with_unfolding_all exact rfl) | exact Nat.ne_of_gt (lt_s (by assumption)) | exact Nat.ne_of_gt (lt_s (lt_s (by assumption))) | exact Nat.ne_of_gt (lt_s (lt_s (lt_s (by assumption)))) | exact Nat.ne_of_lt (by k_extra "!lt9") | exact Nat.ne_of_gt (by k_extra "!lt9") | (refine Nat.lt_of_lt_of_le ?_ (Nat.le_refl _); k_extra "!lt9") | fail
  k_with "!k_all" => first | exact ne_of_allLt (by assumption) | exact ne_of_allLt (And.right (by assumption)) | exact ne_of_allLt (And.right (And.right (by assumption)))
  k_with "!sub" => first | exact fun _ h => h | (with_reducible assumption) | exact sub_app (by assumption) | exact sub_app (fun _ h => h) | exact (fun _ h => List.mem_append_right _ h) | (refine sub_cc ?_; k_extra "!sub") | (refine sub_tl ?_; k_extra "!sub")
  k_with "!U" => ((case B => assumption); (case F => k_asm); (case X => assumption); (case T => assumption); (case hf => exact rfl); (case hk => exact rfl); (case N => k_asm); (case hs => k_extra "!sub"); (case hdp => ((try dsimp only); omega)); (case hun => ((try dsimp only); omega)); k_whole)
  k_with "!k_handed" => with_reducible assumption
  k_with "!k_all" => first | exact ne_of_allNe (by assumption) | exact ne_of_allNe (And.right (by assumption)) | exact ne_of_allNe (And.right (And.right (by assumption)))
  k_with "!exec While Compare cons nil" => k_extra "exec While Compare cons nil"
  k_with "!call ref" => k_extra "call ref"
  k_with "!k_all" => first | exact ne_of_lts2 (by assumption) | (with_reducible assumption)
  k_with "!k_mem" => assumption
  k_with "!callWith ref" => (k_here; k_dflt (first | (refine' callWith_K ?k1 ?k2 ?_; (case k1 => k_asm); (case k2 => k_is); k_whole) | (refine' callWith_K0 ?k1 ?k2 ?_; (case k1 => k_in); (case k2 => k_is); k_whole) | (refine' callWith_M0 ?k1 ?k2 ?_; (case k1 => k_meth); (case k2 => k_is); k_whole; try dsimp only [List.nil_append, List.cons_append]) | (refine' callWith_M ?k1 ?k2 ?k3 ?k4 ?_; (case k1 => k_asm); (case k2 => k_asm); (case k3 => k_mem); (case k4 => k_is); k_whole) | (refine' callWith_F ?k1 ?_; (case k1 => exact FnAt.of (by k_asm) (by k_mem)); k_whole)))
  have hT1 := hs _ (.head _)
  have hT2 := hs _ (.tail _ (.head _))
  k_with "exec While Compare cons nil" =>
    rename Fr _ _ _ _ => lF
    rename News _ _ _ _ => lN
    refine while_my (n₀ := i + 1) (fun k m nx => ∃ D o v us c done, nx = (D, listOf us.toArray c) :: FP ∧ m (Str.ofString "node") = some v ∧ m (Str.ofString "found") = some (.ref D) ∧ m (Str.ofString "tree") = some (.ref τ.aT) ∧ IsPar v o ∧ (∀ j, o = some j → j < S.n) ∧ IntsAre us (natInts done) ∧
      done ++ S.up o = S.up (some i) ∧ (∀ p ∈ FP, p.1 ≠ D) ∧ done.length + k ≤ S.n ∧ k = match o with | none => 0 | some j => j + 1) lF lN ?j0 ?turn PassesOwn.never
  k_steps
  · rename News _ _ _ _ => lN
    exact ⟨⟨_, some i, .int i ti, [], 0, [], rfl, rfl, rfl, rfl, ⟨_, rfl⟩, (fun j e => by cases e; exact hi), .nil, rfl, (ne_of_lts2 (by assumption)), (by simp only [List.length_nil]; omega), rfl⟩⟩
  · refine ⟨fun k m₁ nx h₂ tk₂ F₁ N₁ hJ => ?_⟩
    obtain ⟨D, o, v, us, c, done, rfl, e1, e2, e3, hv, hlt, hU, hdone, hD, hsz, hk⟩ := hJ
    have F₂ := fr_pins (l := [(Str.ofString "node", v), (Str.ofString "found", .ref D), (Str.ofString "tree", .ref τ.aT)]) F₁ (allC e1 (all2 e2 e3))
    clear F₁
    have hul : us.length = done.length := by rw [hU.length]; simp [natInts]
    have hS2 := hS.small
    cases o with
    | none =>
      have hv' : v = .none := hv
      subst hv'
      k_steps
      refine ⟨_, _, _, rfl, F₂, ⟨⟨_, _, rfl, fresh_of kp N₁ (.head _) hD, (N₁ _ (.head _)).1, _, _, rfl, ?_⟩, led_of N₁ (by walk_at "sub")⟩⟩
      rw [← hdone, Shape.up, List.append_nil]
      exact hU
    | some j =>
      obtain ⟨t, rfl⟩ := hv
      obtain ⟨R, hR, _, hp, _⟩ := hS.row j (hlt j rfl)
      k_with "call ref" =>
        refine' use_ro (parentT hs hR (by have := hS.len; omega) hp.handed) ?B ?F ?X ?T ?hf ?hk ?N ?hs ?hdp ?hun ?_
        walk_at "U"
        intro v' h' tk' F' N' ka' hv'
        subst hv'
      k_steps
      rename News _ _ _ _ => N₃
      have hb : ∀ j', S.par j = some j' → j' < j := fun j' e => hS.below j j' (hlt j rfl) e
      refine ⟨_, _, _, _, (match S.par j with | none => 0 | some j => j + 1), rfl, by assumption, N₃, ?_, D, S.par j, R.vp, us ++ [.int j t], c + 1, done ++ [j], by simp, rfl, rfl, rfl, hp, fun j' e => Nat.lt_trans (hb j' e) (hlt j rfl), ?_, ?_, hD, ?_, rfl⟩
      · rw [hk]; cases e : S.par j with
        | none => simp
        | some j' => have := hb j' e; simp only; omega
      · rw [show natInts (done ++ [j]) = natInts done ++ [(j : Int)] from by simp [natInts]]; exact ints_snoc hU
      · rw [← hdone, Shape.up_some hS (hlt j rfl)]; simp
      · simp only [List.length_append, List.length_cons, List.length_nil]
        simp only at hk
        cases e : S.par j with
        | none => simp only; omega
        | some j' => have := hb j' e; simp only; omega
end
section
example : True := by
  w_top off
  k_with_none
  k_with "!c1" => first | assumption | exact And.right (by k_extra "!c2") | fail
  k_with "!c2" => first | assumption | exact And.right (by k_extra "!c3") | fail
  k_with "!c3" => first | assumption | exact And.right (by k_extra "!c4") | fail
  k_with "!c4" => first | assumption | exact And.right (by k_extra "!c5") | fail
  k_with "!c5" => first | assumption | exact And.right (by k_extra "!c6") | fail
  k_with "!c6" => first | assumption | exact And.right (by k_extra "!c7") | fail
  k_with "!c7" => first | assumption | exact And.right (by k_extra "!c8") | fail
  k_with "!c8" => assumption
  k_with "!lt9" => with_reducible first | exact And.left (by k_extra "!c1") | exact And.right (by k_extra "!c1") | fail
  k_with "!omega" => with_reducible first | exact lt_dp (by assumption) (by with_unfolding_all exact rfl) | exact lt_un (by assumption) (by with_unfolding_all exact rfl) | assumption | exact Ne.symm (by assumption) | exact Nat.ne_of_lt (by assumption) | exact Nat.ne_of_gt (by assumption) | exact le_big (by assumption) (by with_unfolding_all exact rfl) | exact le_big2 (by assumption) (by with_unfolding_all exact rfl) | exact lt_big (by assumption) (by with_unfolding_all exact rfl) | exact Nat.le_of_ble_eq_true (by with_unfolding_all exact rfl) | exact Nat.ne_of_gt (lt_s (by assumption)) | exact Nat.ne_of_gt (lt_s (lt_s (by assumption))) | exact Nat.ne_of_gt (lt_s (lt_s (lt_s (by assumption)))) | exact Nat.ne_of_lt (by k_extra "!lt9") | exact Nat.ne_of_gt (by k_extra "!lt9") | (refine Nat.lt_of_lt_of_le ?_ (Nat.le_refl _); k_extra "!lt9") | fail
  k_with "!k_all" => first | exact ne_of_allLt (by assumption) | exact ne_of_allLt (And.right (by assumption)) | exact ne_of_allLt (And.right (And.right (by assumption)))
  k_with "!sub" => first | exact fun _ h => h | (with_reducible assumption) | exact sub_app (by assumption) | exact sub_app (fun _ h => h) | exact (fun _ h => List.mem_append_right _ h) | (refine sub_cc ?_; k_extra "!sub") | (refine sub_tl ?_; k_extra "!sub")
  k_with "!U" => ((case B => assumption); (case F => k_asm); (case X => assumption); (case T => assumption); (case hf => exact rfl); (case hk => exact rfl); (case N => k_asm); (case hs => k_extra "!sub"); (case hdp => ((try dsimp only); omega)); (case hun => ((try dsimp only); omega)); k_whole)
  k_with "!k_handed" => with_reducible assumption
  k_with "!k_all" => first | exact ne_of_allNe (by assumption) | exact ne_of_allNe (And.right (by assumption)) | exact ne_of_allNe (And.right (And.right (by assumption)))
  k_with "!call ref" => k_extra "call ref"
  k_with "!k_all" => first | exact ne_of_lts2 (by assumption) | (with_reducible assumption)
  k_with "!k_mem" => assumption
  k_with "!callWith ref" => (k_here; k_dflt (first | (refine' callWith_K ?k1 ?k2 ?_; (case k1 => k_asm); (case k2 => k_is); k_whole) | (refine' callWith_K0 ?k1 ?k2 ?_; (case k1 => k_in); (case k2 => k_is); k_whole) | (refine' callWith_M0 ?k1 ?k2 ?_; (case k1 => k_meth); (case k2 => k_is); k_whole; try dsimp only [List.nil_append, List.cons_append]) | (refine' callWith_M ?k1 ?k2 ?k3 ?k4 ?_; (case k1 => k_asm); (case k2 => k_asm); (case k3 => k_mem); (case k4 => k_is); k_whole) | (refine' callWith_F ?k1 ?_; (case k1 => exact FnAt.of (by k_asm) (by k_mem)); k_whole)))
  k_with "!exec For Name Call cons nil" => k_extra "exec For"
  k_with "!pyIter ref" => k_extra "pyIter ref"
  trivial

theorem some_int {y z : Int} {t : Tok} (h : y = z) : ∃ t', some (Value.int y t) = some (Value.int z t') := ⟨t, h ▸ rfl⟩
/-- a function value that answers by p of nodes -/
def Cb (w : World) (f : Addr) (n : Nat) (FP : List (Addr × Obj)) (N : Nat) (p : Nat → Bool) : Prop :=
  (∃ oc od fd sl, (f, (⟨oc, od, .func fd, sl⟩ : Obj)) ∈ FP) ∧
  ∀ (j : Nat) (t : Tok) (h : Heap), j < N → Spec w (.ref f) [.int j t] n FP (fun v h' => v = .bool (p j) ∧ ∀ q ∈ FP, h'.get? q.1 = some q.2) h

def Shape.place (S : Shape) (p : Nat → Bool) (i : Nat) : Nat := match S.par i with
  | none => 1
  | some j => if S.kind i = Str.ofString "attribute" ∨ S.kind i = Str.ofString "namespace" then 1 else 1 + (((S.ch j).takeWhile (fun c => c != i)).filter p).length

theorem takeWhile_at {i : Nat} : ∀ {l : List Nat} {k : Nat}, l[k]? = some i → (∀ c ∈ l.take k, c ≠ i) → l.takeWhile (fun c => c != i) = l.take k
  | [], k, h, _ => by simp at h
  | a :: r, 0, h, _ => by simp at h; subst h; simp
  | a :: r, k + 1, h, hn => by
    have ha : a ≠ i := hn a (by simp)
    rw [List.takeWhile_cons, if_pos (by simpa using ha), List.take_succ_cons, takeWhile_at (by simpa using h) fun c hc => hn c (by simp [hc])]
theorem takeWhile_none {i : Nat} {l : List Nat} (hn : ∀ c ∈ l, c ≠ i) : l.takeWhile (fun c => c != i) = l := by
  induction l with
  | nil => rfl
  | cons a r ih => rw [List.takeWhile_cons, if_pos (by simpa using hn a (.head _)), ih fun c hc => hn c (.tail _ hc)]
theorem take_snoc {l : List Nat} {k c : Nat} (h : l[k]? = some c) : l.take (k + 1) = l.take k ++ [c] := by rw [List.take_add_one, h]; rfl

theorem no_attr {k a b : Str} (h : ([a, b].any fun x => x == k) = false) : ¬ (k = a ∨ k = b) := by
  simp only [List.any_cons, List.any_nil, Bool.or_false, Bool.or_eq_false_iff, beq_eq_false_iff_ne, ne_eq] at h
  exact fun q => q.elim (fun e => h.1 e.symm) fun e => h.2 e.symm

theorem place_spec {w : World} {S : Shape} {τ : TreeC} (hS : S.Of τ) {i : Nat} {ti : Tok} (hi : i < S.n) {FP : List (Addr × Obj)} (hs : ∀ q ∈ τ.led w, q ∈ FP) {f : Addr} {p : Nat → Bool} (hf : Cb w f 3 FP S.n p) {h : Heap} :
    Spec w (.ref 35) [.ref τ.aT, .int i ti, .ref f] 9 FP (fun v h' => (∃ t, v = .int (S.place p i) t) ∧ ∀ q ∈ FP, h'.get? q.1 = some q.2) h := by
  refine enter (binds := [(Str.ofString "tree", .ref τ.aT), (Str.ofString "node", .int i ti), (Str.ofString "is_counted", .ref f)]) (by k_is) (by k_is) (fun s => BindsTo.of_eq rfl) (locs rfl) rfl rfl rfl (by decide) ?_
  intro dp un gd env outer A₀ base g L' h₁ p' loose mean mg mb gs ds tk os B X T F N lt hdp hun kp
  k_fold
  k_with_none
  k_with "!c1" => first | assumption | exact And.right (by k_extra "!c2") | fail
  k_with "!c2" => first | assumption | exact And.right (by k_extra "!c3") | fail
  k_with "!c3" => first | assumption | exact And.right (by k_extra "!c4") | fail
  k_with "!c4" => first | assumption | exact And.right (by k_extra "!c5") | fail
  k_with "!c5" => first | assumption | exact And.right (by k_extra "!c6") | fail
  k_with "!c6" => first | assumption | exact And.right (by k_extra "!c7") | fail
  k_with "!c7" => first | assumption | exact And.right (by k_extra "!c8") | fail
  k_with "!c8" => assumption
  k_with "!lt9" => with_reducible first | exact And.left (by k_extra "!c1") | exact And.right (by k_extra "!c1") | fail
  k_with "!omega" => with_reducible first | exact lt_dp (by assumption) (by with_unfolding_all exact rfl) | exact lt_un (by assumption) (by with_unfolding_all exact rfl) | assumption | exact Ne.symm (by assumption) | exact Nat.ne_of_lt (by assumption) | exact Nat.ne_of_gt (by assumption) | exact le_big (by assumption) (by with_unfolding_all exact rfl) | exact le_big2 (by assumption) (by with_unfolding_all exact rfl) | exact lt_big (by assumption) (by with_unfolding_all exact rfl) | exact Nat.le_of_ble_eq_true (by with_unfolding_all exact rfl) | exact Nat.ne_of_gt (lt_s (by assumption)) | exact Nat.ne_of_gt (lt_s (lt_s (by assumption))) | exact Nat.ne_of_gt (lt_s (lt_s (lt_s (by assumption)))) | exact Nat.ne_of_lt (by k_extra "!lt9") | exact Nat.ne_of_gt (by k_extra "!lt9") | (refine Nat.lt_of_lt_of_le ?_ (Nat.le_refl _); k_extra "!lt9") | fail
  k_with "!k_all" => first | exact ne_of_allLt (by assumption) | exact ne_of_allLt (And.right (by assumption)) | exact ne_of_allLt (And.right (And.right (by assumption)))
  k_with "!sub" => first | exact fun _ h => h | (with_reducible assumption) | exact sub_app (by assumption) | exact sub_app (fun _ h => h) | exact (fun _ h => List.mem_append_right _ h) | (refine sub_cc ?_; k_extra "!sub") | (refine sub_tl ?_; k_extra "!sub")
  k_with "!U" => ((case B => assumption); (case F => k_asm); (case X => assumption); (case T => assumption); (case hf => exact rfl); (case hk => exact rfl); (case N => k_asm); (case hs => k_extra "!sub"); (case hdp => ((try dsimp only); omega)); (case hun => ((try dsimp only); omega)); k_whole)
  k_with "!k_handed" => with_reducible assumption
  k_with "!k_all" => first | exact ne_of_allNe (by assumption) | exact ne_of_allNe (And.right (by assumption)) | exact ne_of_allNe (And.right (And.right (by assumption)))
  k_with "!call ref" => k_extra "call ref"
  k_with "!k_all" => first | exact ne_of_lts2 (by assumption) | (with_reducible assumption)
  k_with "!k_mem" => assumption
  k_with "!callWith ref" => (k_here; k_dflt (first | (refine' callWith_K ?k1 ?k2 ?_; (case k1 => k_asm); (case k2 => k_is); k_whole) | (refine' callWith_K0 ?k1 ?k2 ?_; (case k1 => k_in); (case k2 => k_is); k_whole) | (refine' callWith_M0 ?k1 ?k2 ?_; (case k1 => k_meth); (case k2 => k_is); k_whole; try dsimp only [List.nil_append, List.cons_append]) | (refine' callWith_M ?k1 ?k2 ?k3 ?k4 ?_; (case k1 => k_asm); (case k2 => k_asm); (case k3 => k_mem); (case k4 => k_is); k_whole) | (refine' callWith_F ?k1 ?_; (case k1 => exact FnAt.of (by k_asm) (by k_mem)); k_whole)))
  k_with "!exec For Name Call cons nil" => k_extra "exec For"
  k_with "!pyIter ref" => k_extra "pyIter ref"
  have hT1 := hs _ (.head _)
  have hT2 := hs _ (.tail _ (.head _))
  obtain ⟨⟨oc, od, fd, sl, hfo⟩, hcb⟩ := hf
  obtain ⟨R, hR, ⟨tkk, hk⟩, hp, hc⟩ := hS.row i hi
  have hlen := hS.len
  have hsm := hS.small
  have hkh : handedIn R.vk = true := by rw [hk]; rfl
  cases hpar : S.par i with
  | none =>
    have hvp : R.vp = .none := by rw [hpar] at hp; exact hp
    k_with "call ref" =>
      refine' use_ro (parentT hs hR (by omega) hp.handed) ?B ?F ?X ?T ?hf ?hk ?N ?hs ?hdp ?hun ?_
      walk_at "U"
      intro v' h' tk' F' N' ka' hv'
      rw [hvp] at hv'
      subst hv'
    k_steps
    rename News _ _ _ _ => N'
    exact ⟨_, _, _, rfl, by assumption, ⟨_, by rw [Shape.place, hpar]; rfl⟩, led_of N' (by walk_at "sub")⟩
  | some j =>
    obtain ⟨tp, hvp⟩ : ∃ t, R.vp = .int (j : Int) t := by rw [hpar] at hp; exact hp
    have hj : j < S.n := Nat.lt_trans (hS.below i j hi hpar) hi
    obtain ⟨Rj, hRj, _, _, hcj⟩ := hS.row j hj
    have hcl : Rj.cs.length < 1000 := by rw [hcj.length]; have := (hS.chs j hj).1; simp only [natInts, List.length_map]; omega
    k_with "call ref" =>
      first
      | (refine' use_ro (parentT hs hR (by omega) hp.handed) ?B ?F ?X ?T ?hf ?hk ?N ?hs ?hdp ?hun ?_
         walk_at "U"
         intro v' h' tk' F' N' ka' hv'
         rw [hvp] at hv'
         subst hv')
      | (refine' use_ro (kindT hs hR (by omega) hkh) ?B ?F ?X ?T ?hf ?hk ?N ?hs ?hdp ?hun ?_
         walk_at "U"
         intro v' h' tk' F' N' ka' hv'
         rw [hk] at hv'
         subst hv')
      | (refine' use_new (childrenT hs hRj (by omega) hcl) ?B ?F ?X ?T ?hf ?hk ?N ?hs ?hdp ?hun ?_
         walk_at "U"
         intro D' o' h' tk' F' N' ne' nL' ka' hv'
         obtain ⟨ed', hv'⟩ := hv'
         subst hv'
         (try simp only [AllNe] at ne'))
    k_with "pyIter ref" =>
      rename Fr _ _ _ _ => lF
      rename News _ _ _ _ => lN
      refine' iter_my (vs := Rj.cs) (fun k m nx => (∀ q ∈ FP, q ∈ nx) ∧ (∃ t, m (Str.ofString "many") = some (.int ((1 + (((S.ch j).take k).filter p).length : Nat) : Int) t)) ∧ m (Str.ofString "node") = some (.int (i : Int) ti) ∧ m (Str.ofString "is_counted") = some (.ref f) ∧
        ∀ c ∈ (S.ch j).take k, c ≠ i) rfl (by k_mem) lF lN ?j0 ?turn ?done
    k_steps
    · rename News _ _ _ _ => N'
      refine ⟨_, _, _, rfl, by assumption, ktn_int ?_, led_of N' (by walk_at "sub")⟩
      rename (List.any _ _ = true) => hk9
      have hk8 : S.kind i = Str.ofString "attribute" ∨ S.kind i = Str.ofString "namespace" := by
        simp only [List.any_cons, List.any_nil, Bool.or_false, Bool.or_eq_true, beq_iff_eq] at hk9
        exact hk9.imp Eq.symm Eq.symm
      rw [Shape.place, hpar]
      simp only [if_pos hk8]
      rfl
    · exact ⟨⟨by walk_at "sub", ⟨_, by simp; rfl⟩, rfl, rfl, by simp⟩⟩
    · rename (List.any _ _ = false) => hk9
      have hk7 := no_attr hk9
      refine ⟨fun k v m₁ news₁ h₂ tk₂ own hv hoff hmem hJ F₁ N₁ => ?_⟩
      obtain ⟨hsub, ⟨tm, e1⟩, e2, e3, hne⟩ := hJ
      obtain ⟨c, tc, hc1, rfl⟩ := natInts_get hcj hv
      have F₂ := fr_pinsX (l := [(Str.ofString "many", _), (Str.ofString "node", _), (Str.ofString "is_counted", _)]) F₁ (allC e1 (all2 e2 e3))
      clear F₁
      have hfo' := hsub _ hfo
      have hcn : c < S.n := (hS.chs j hj).2 c (List.mem_of_getElem? hc1)
      k_with "call ref" =>
        refine' use_ro (hcb c tc _ hcn) ?B ?F ?X ?T ?hf ?hk ?N ?hs ?hdp ?hun ?_
        walk_at "U"
        intro v' h' tk' F' N' ka' hv'
        subst hv'
      k_steps
      · rename ((c : Int) = (i : Int)) => hci
        have hci' : c = i := by omega
        subst hci'
        refine ⟨_, _, _, rfl, by assumption, ktn_int ?_, led_of N₁ (by walk_at "sub")⟩
        rw [Shape.place, hpar]
        simp only [if_neg hk7, takeWhile_at hc1 hne]
      · rename ((c : Int) ≠ (i : Int)) => hci
        rename (p c = true) => hpc
        rename News _ _ _ _ => N₃
        rename Fr _ _ _ _ => F₃
        refine InvEndG.intro F₃ N₃ ⟨hmem, hsub, some_int ?_, rfl, rfl, ?_⟩ hoff (fun q hq => List.mem_append_left _ hq) (fun q hq => List.mem_append_right _ hq)
        · rw [take_snoc hc1, List.filter_append]; simp only [List.filter_cons, hpc, List.filter_nil, List.length_append, List.length_cons, List.length_nil, if_true]
          omega
        · rw [take_snoc hc1]; intro x hx; rcases List.mem_append.mp hx with hx | hx; exact hne x hx; rw [List.mem_singleton.mp hx]; omega
      · rename ((c : Int) ≠ (i : Int)) => hci
        rename (p c = false) => hpc
        rename News _ _ _ _ => N₃
        rename Fr _ _ _ _ => F₃
        refine InvEndG.intro F₃ N₃ ⟨hmem, hsub, some_int ?_, rfl, rfl, ?_⟩ hoff (fun q hq => List.mem_append_left _ hq) (fun q hq => List.mem_append_right _ hq)
        · rw [take_snoc hc1, List.filter_append]; simp only [List.filter_cons, hpc, List.filter_nil, List.append_nil, if_false, Bool.false_eq_true]
        · rw [take_snoc hc1]; intro x hx; rcases List.mem_append.mp hx with hx | hx; exact hne x hx; rw [List.mem_singleton.mp hx]; omega
    · rename (List.any _ _ = false) => hk9
      have hk7 := no_attr hk9
      refine ⟨fun m₁ news₁ h₂ tk₂ hJ F₁ N₁ => ?_⟩
      obtain ⟨hsub, ⟨tm, e1⟩, e2, e3, hne⟩ := hJ
      have F₂ := fr_pins (l := [(Str.ofString "many", _)]) F₁ (fun q hq => by rw [List.mem_singleton.mp hq]; exact e1)
      clear F₁
      k_steps
      refine ⟨_, _, _, rfl, F₂, ktn_int ?_, led_of N₁ (by walk_at "sub")⟩
      have hl9 : Rj.cs.length = (S.ch j).length := by rw [hcj.length]; simp [natInts]
      rw [hl9, List.take_length] at hne ⊢
      rw [Shape.place, hpar]
      simp only [if_neg hk7, takeWhile_none hne]
end
section
example : True := by
  w_top off
  k_with_none
  k_with "!c1" => first | assumption | exact And.right (by k_extra "!c2") | fail
  k_with "!c2" => first | assumption | exact And.right (by k_extra "!c3") | fail
  k_with "!c3" => first | assumption | exact And.right (by k_extra "!c4") | fail
  k_with "!c4" => first | assumption | exact And.right (by k_extra "!c5") | fail
  k_with "!c5" => first | assumption | exact And.right (by k_extra "!c6") | fail
  k_with "!c6" => first | assumption | exact And.right (by k_extra "!c7") | fail
  k_with "!c7" => first | assumption | exact And.right (by k_extra "!c8") | fail
  k_with "!c8" => assumption
  k_with "!lt9" => with_reducible first | exact And.left (by k_extra "!c1") | exact And.right (by k_extra "!c1") | fail
  k_with "!omega" => with_reducible first | exact lt_dp (by assumption) (by with_unfolding_all exact rfl) | exact lt_un (by assumption) (by with_unfolding_all exact rfl) | assumption | exact Ne.symm (by assumption) | exact Nat.ne_of_lt (by assumption) | exact Nat.ne_of_gt (by assumption) | exact le_big (by assumption) (by with_unfolding_all exact rfl) | exact le_big2 (by assumption) (by with_unfolding_all exact rfl) | exact lt_big (by assumption) (by with_unfolding_all exact rfl) | exact Nat.le_of_ble_eq_true (by with_unfolding_all exact rfl) | exact Nat.ne_of_gt (lt_s (by assumption)) | exact Nat.ne_of_gt (lt_s (lt_s (by assumption))) | exact Nat.ne_of_gt (lt_s (lt_s (lt_s (by assumption)))) | exact Nat.ne_of_lt (by k_extra "!lt9") | exact Nat.ne_of_gt (by k_extra "!lt9") | (refine Nat.lt_of_lt_of_le ?_ (Nat.le_refl _); k_extra "!lt9") | fail
  k_with "!k_all" => first | exact ne_of_allLt (by assumption) | exact ne_of_allLt (And.right (by assumption)) | exact ne_of_allLt (And.right (And.right (by assumption)))
  k_with "!sub" => first | exact fun _ h => h | (with_reducible assumption) | exact sub_app (by assumption) | exact sub_app (fun _ h => h) | exact (fun _ h => List.mem_append_right _ h) | (refine sub_cc ?_; k_extra "!sub") | (refine sub_tl ?_; k_extra "!sub")
  k_with "!U" => ((case B => assumption); (case F => k_asm); (case X => assumption); (case T => assumption); (case hf => exact rfl); (case hk => exact rfl); (case N => k_asm); (case hs => k_extra "!sub"); (case hdp => ((try dsimp only); omega)); (case hun => ((try dsimp only); omega)); k_whole)
  k_with "!k_handed" => with_reducible assumption
  k_with "!k_all" => first | exact ne_of_allNe (by assumption) | exact ne_of_allNe (And.right (by assumption)) | exact ne_of_allNe (And.right (And.right (by assumption)))
  k_with "!call ref" => k_extra "call ref"
  k_with "!k_all" => first | exact ne_of_lts2 (by assumption) | (with_reducible assumption)
  k_with "!k_mem" => assumption
  k_with "!callWith ref" => (k_here; k_dflt (first | (refine' callWith_K ?k1 ?k2 ?_; (case k1 => k_asm); (case k2 => k_is); k_whole) | (refine' callWith_K0 ?k1 ?k2 ?_; (case k1 => k_in); (case k2 => k_is); k_whole) | (refine' callWith_M0 ?k1 ?k2 ?_; (case k1 => k_meth); (case k2 => k_is); k_whole; try dsimp only [List.nil_append, List.cons_append]) | (refine' callWith_M ?k1 ?k2 ?k3 ?k4 ?_; (case k1 => k_asm); (case k2 => k_asm); (case k3 => k_mem); (case k4 => k_is); k_whole) | (refine' callWith_F ?k1 ?_; (case k1 => exact FnAt.of (by k_asm) (by k_mem)); k_whole)))
  k_with "!exec For Name Call cons nil" => k_extra "exec For"
  k_with "!pyIter ref" => k_extra "pyIter ref"
  trivial

def Shape.upTo (S : Shape) (b : Nat → Bool) (i : Nat) : List Nat := (S.up (some i)).takeWhile (fun c => c == i || !b c)

theorem takeWhile_stop {q : Nat → Bool} : ∀ {l : List Nat} {k c : Nat}, l[k]? = some c → (∀ x ∈ l.take k, q x = true) → q c = false → l.takeWhile q = l.take k
  | [], k, c, h, _, _ => by simp at h
  | a :: r, 0, c, h, _, hq => by simp at h; subst h; simp [hq]
  | a :: r, k + 1, c, h, hn, hq => by
    rw [List.takeWhile_cons, if_pos (hn a (by simp)), List.take_succ_cons, takeWhile_stop (by simpa using h) (fun x hx => hn x (by simp [hx])) hq]
theorem takeWhile_all {q : Nat → Bool} {l : List Nat} (hn : ∀ c ∈ l, q c = true) : l.takeWhile q = l := by
  induction l with
  | nil => rfl
  | cons a r ih => rw [List.takeWhile_cons, if_pos (hn a (.head _)), ih fun c hc => hn c (.tail _ hc)]
theorem Shape.up_lt {S : Shape} {τ : TreeC} (hS : S.Of τ) : ∀ f i, i < f → i < S.n → ∀ c ∈ S.up (some i), c < S.n := by
  intro f
  induction f with
  | zero => intro i h; omega
  | succ f ih =>
    intro i hf hi c hc
    rw [Shape.up_some hS hi] at hc
    rcases List.mem_cons.mp hc with rfl | hc
    · exact hi
    · cases hp : S.par i with
      | none => rw [hp] at hc; cases hc
      | some j => rw [hp] at hc; have hb := hS.below i j hi hp; exact ih j (by omega) (by omega) c hc
theorem Shape.up_len {S : Shape} {τ : TreeC} (hS : S.Of τ) {i : Nat} (hi : i < S.n) : (S.up (some i)).length ≤ S.n := Nat.le_trans (S.anc_len _ _) hi
theorem natInts_snoc {l : List Nat} {c : Nat} : natInts (l ++ [c]) = natInts l ++ [(c : Int)] := by simp [natInts]
theorem ints_take {us : List Value} {l : List Nat} {k c : Nat} {t : Tok} (h : IntsAre us (natInts (l.take k))) (e : l[k]? = some c) : IntsAre (us ++ [.int (c : Int) t]) (natInts (l.take (k + 1))) := by
  rw [take_snoc e, natInts_snoc]; exact ints_snoc h

theorem upto_spec {w : World} {S : Shape} {τ : TreeC} (hS : S.Of τ) {i : Nat} {ti : Tok} (hi : i < S.n) {FP : List (Addr × Obj)} (hs : ∀ q ∈ τ.led w, q ∈ FP) {f : Addr} {b : Nat → Bool} (hf : Cb w f 3 FP S.n b) {h : Heap} :
    Spec w (.ref 42) [.ref τ.aT, .int i ti, .ref f] 12 FP (fun v h' => (∃ D o, v = .ref D ∧ h.get? D = none ∧ h'.get? D = some o ∧ ∃ us ed, o = listOf us.toArray ed ∧ IntsAre us (natInts (S.upTo b i))) ∧ ∀ q ∈ FP, h'.get? q.1 = some q.2) h := by
  refine enter (binds := [(Str.ofString "tree", .ref τ.aT), (Str.ofString "node", .int i ti), (Str.ofString "is_begin", .ref f)]) (by k_is) (by k_is) (fun s => BindsTo.of_eq rfl) (locs rfl) rfl rfl rfl (by decide) ?_
  intro dp un gd env outer A₀ base g L' h₁ p' loose mean mg mb gs ds tk os B X T F N lt hdp hun kp
  k_fold
  k_with_none
  k_with "!c1" => first | assumption | exact And.right (by k_extra "!c2") | fail
  k_with "!c2" => first | assumption | exact And.right (by k_extra "!c3") | fail
  k_with "!c3" => first | assumption | exact And.right (by k_extra "!c4") | fail
  k_with "!c4" => first | assumption | exact And.right (by k_extra "!c5") | fail
  k_with "!c5" => first | assumption | exact And.right (by k_extra "!c6") | fail
  k_with "!c6" => first | assumption | exact And.right (by k_extra "!c7") | fail
  k_with "!c7" => first | assumption | exact And.right (by k_extra "!c8") | fail
  k_with "!c8" => assumption
  k_with "!lt9" => with_reducible first | exact And.left (by k_extra "!c1") | exact And.right (by k_extra "!c1") | fail
  k_with "!omega" => with_reducible first | exact lt_dp (by assumption) (by with_unfolding_all exact rfl) | exact lt_un (by assumption) (by with_unfolding_all exact rfl) | assumption | exact Ne.symm (by assumption) | exact Nat.ne_of_lt (by assumption) | exact Nat.ne_of_gt (by assumption) | exact le_big (by assumption) (by with_unfolding_all exact rfl) | exact le_big2 (by assumption) (by with_unfolding_all exact rfl) | exact lt_big (by assumption) (by with_unfolding_all exact rfl) | exact Nat.le_of_ble_eq_true (by with_unfolding_all exact rfl) | exact Nat.ne_of_gt (lt_s (by assumption)) | exact Nat.ne_of_gt (lt_s (lt_s (by assumption))) | exact Nat.ne_of_gt (lt_s (lt_s (lt_s (by assumption)))) | exact Nat.ne_of_lt (by k_extra "!lt9") | exact Nat.ne_of_gt (by k_extra "!lt9") | (refine Nat.lt_of_lt_of_le ?_ (Nat.le_refl _); k_extra "!lt9") | fail
  k_with "!k_all" => first | exact ne_of_allLt (by assumption) | exact ne_of_allLt (And.right (by assumption)) | exact ne_of_allLt (And.right (And.right (by assumption)))
  k_with "!sub" => first | exact fun _ h => h | (with_reducible assumption) | exact sub_app (by assumption) | exact sub_app (fun _ h => h) | exact (fun _ h => List.mem_append_right _ h) | (refine sub_cc ?_; k_extra "!sub") | (refine sub_tl ?_; k_extra "!sub")
  k_with "!U" => ((case B => assumption); (case F => k_asm); (case X => assumption); (case T => assumption); (case hf => exact rfl); (case hk => exact rfl); (case N => k_asm); (case hs => k_extra "!sub"); (case hdp => ((try dsimp only); omega)); (case hun => ((try dsimp only); omega)); k_whole)
  k_with "!k_handed" => with_reducible assumption
  k_with "!k_all" => first | exact ne_of_allNe (by assumption) | exact ne_of_allNe (And.right (by assumption)) | exact ne_of_allNe (And.right (And.right (by assumption)))
  k_with "!call ref" => k_extra "call ref"
  k_with "!k_all" => first | exact ne_of_lts2 (by assumption) | (with_reducible assumption)
  k_with "!k_mem" => assumption
  k_with "!callWith ref" => (k_here; k_dflt (first | (refine' callWith_K ?k1 ?k2 ?_; (case k1 => k_asm); (case k2 => k_is); k_whole) | (refine' callWith_K0 ?k1 ?k2 ?_; (case k1 => k_in); (case k2 => k_is); k_whole) | (refine' callWith_M0 ?k1 ?k2 ?_; (case k1 => k_meth); (case k2 => k_is); k_whole; try dsimp only [List.nil_append, List.cons_append]) | (refine' callWith_M ?k1 ?k2 ?k3 ?k4 ?_; (case k1 => k_asm); (case k2 => k_asm); (case k3 => k_mem); (case k4 => k_is); k_whole) | (refine' callWith_F ?k1 ?_; (case k1 => exact FnAt.of (by k_asm) (by k_mem)); k_whole)))
  k_with "!exec For Name Call cons nil" => k_extra "exec For"
  k_with "!pyIter ref" => k_extra "pyIter ref"
  obtain ⟨⟨oc, od, fd, sl, hfo⟩, hcb⟩ := hf
  have hlen := hS.len
  have hsm := hS.small
  have hul := Shape.up_len hS hi
  k_with "call ref" =>
    refine' use_new (ancestors_spec hS hi hs) ?B ?F ?X ?T ?hf ?hk ?N ?hs ?hdp ?hun ?_
    walk_at "U"
    intro D' o' h' tk' F' N' ne' nL' ka' hv'
    obtain ⟨us', ed', hv', hU'⟩ := hv'
    subst hv'
    (try simp only [AllNe] at ne')
  k_with "pyIter ref" =>
    rename Fr _ _ _ _ => lF
    rename News _ _ _ _ => lN
    refine' iter_my (vs := us') (fun k m nx => ∃ D us c, nx = (D', listOf us'.toArray ed') :: (D, listOf us.toArray c) :: FP ∧ m (Str.ofString "found") = some (.ref D) ∧ m (Str.ofString "node") = some (.int (i : Int) ti) ∧ m (Str.ofString "is_begin") = some (.ref f) ∧ @Ne Nat D D' ∧ (∀ p ∈ FP, p.1 ≠ D) ∧
      IntsAre us (natInts ((S.up (some i)).take k)) ∧ ∀ c ∈ (S.up (some i)).take k, (c == i || !b c) = true) rfl (by k_mem) lF lN ?j0 ?turn ?done
  k_steps
  · rename (∀ p ∈ FP, p.1 < _) => l9
    exact ⟨⟨_, [], 0, rfl, rfl, rfl, rfl, ne'.1, ne_of_lts2 l9, .nil, by simp⟩⟩
  · refine ⟨fun k v m₁ news₁ h₂ tk₂ own hv hoff hmem hJ F₁ N₁ => ?_⟩
    obtain ⟨D, us, c, rfl, e1, e2, e3, hDl, hDF, hI, hall⟩ := hJ
    obtain ⟨x, tx, hx, rfl⟩ := natInts_get hU' hv
    have F₂ := fr_pinsX (l := [(Str.ofString "found", _), (Str.ofString "node", _), (Str.ofString "is_begin", _)]) F₁ (allC e1 (all2 e2 e3))
    clear F₁
    simp only [List.cons_append] at N₁
    have hxn : x < S.n := Shape.up_lt hS (i + 1) i (Nat.lt_succ_self i) hi x (List.mem_of_getElem? hx)
    have hz9 : us.length ≤ 200 := by rw [hI.length]; simp only [natInts, List.length_map, List.length_take]; omega
    have hoD : ∀ p ∈ FP ++ own, p.1 ≠ D := fun p hp => (List.mem_append.mp hp).elim (hDF p) fun h => hoff p h D (by simp)
    have hfo' : _ ∈ FP ++ own := List.mem_append_left _ hfo
    k_with "call ref" =>
      refine' use_ro (hcb x tx _ hxn) ?B ?F ?X ?T ?hf ?hk ?N ?hs ?hdp ?hun ?_
      walk_at "U"
      intro v' h' tk' F' N' ka' hv'
      subst hv'
    k_steps
    · rename ((x : Int) ≠ (i : Int)) => hxi
      rename (b x = true) => hbx
      rename News _ _ _ _ => N₃
      refine ⟨_, _, _, rfl, by assumption, ⟨⟨_, _, rfl, fresh_of kp N₃ (.tail _ (.head _)) hDF, (N₃ _ (.tail _ (.head _))).1, _, _, rfl, ?_⟩, led_of N₃ (by walk_at "sub")⟩⟩
      rw [Shape.upTo, takeWhile_stop hx hall (by simp only [hbx, Bool.not_true, Bool.or_false, beq_eq_false_iff_ne, ne_eq]; omega)]
      exact hI
    · rename ((x : Int) ≠ (i : Int)) => hxi
      rename (b x = false) => hbx
      rename News _ _ _ _ => N₃
      rename Fr _ _ _ _ => F₃
      simp only [List.push_toArray] at N₃
      refine InvEndG.intro F₃ N₃ ⟨.head _, D, us ++ [.int (x : Int) tx], c + 1, rfl, rfl, rfl, rfl, hDl, hDF, ints_take hI hx, ?_⟩ hoff (by walk_at "sub") (by walk_at "sub")
      rw [take_snoc hx]; intro y hy; rcases List.mem_append.mp hy with hy | hy; exact hall y hy; rw [List.mem_singleton.mp hy, hbx]; simp
    · rename ((x : Int) = (i : Int)) => hxi
      rename News _ _ _ _ => N₃
      rename Fr _ _ _ _ => F₃
      simp only [List.push_toArray] at N₃
      refine InvEndG.intro F₃ N₃ ⟨.head _, D, us ++ [.int (x : Int) tx], c + 1, rfl, rfl, rfl, rfl, hDl, hDF, ints_take hI hx, ?_⟩ hoff (by walk_at "sub") (by walk_at "sub")
      rw [take_snoc hx]; intro y hy; rcases List.mem_append.mp hy with hy | hy; exact hall y hy; rw [List.mem_singleton.mp hy, show x = i from by omega]; simp
  · refine ⟨fun m₁ news₁ h₂ tk₂ hJ F₁ N₁ => ?_⟩
    obtain ⟨D, us, c, rfl, e1, e2, e3, hDl, hDF, hI, hall⟩ := hJ
    have F₂ := fr_pins (l := [(Str.ofString "found", _)]) F₁ (fun q hq => by rw [List.mem_singleton.mp hq]; exact e1)
    clear F₁
    k_steps
    have hl9 : us'.length = (S.up (some i)).length := by rw [hU'.length]; simp [natInts]
    rw [hl9, List.take_length] at hI hall
    refine ⟨_, _, _, rfl, F₂, ⟨⟨_, _, rfl, fresh_of kp N₁ (.tail _ (.head _)) hDF, (N₁ _ (.tail _ (.head _))).1, _, _, rfl, ?_⟩, led_of N₁ (by walk_at "sub")⟩⟩
    rw [Shape.upTo, takeWhile_all hall]
    exact hI
end
section
example : True := by
  w_top off
  k_with_none
  k_with "!c1" => first | assumption | exact And.right (by k_extra "!c2") | fail
  k_with "!c2" => first | assumption | exact And.right (by k_extra "!c3") | fail
  k_with "!c3" => first | assumption | exact And.right (by k_extra "!c4") | fail
  k_with "!c4" => first | assumption | exact And.right (by k_extra "!c5") | fail
  k_with "!c5" => first | assumption | exact And.right (by k_extra "!c6") | fail
  k_with "!c6" => first | assumption | exact And.right (by k_extra "!c7") | fail
  k_with "!c7" => first | assumption | exact And.right (by k_extra "!c8") | fail
  k_with "!c8" => assumption
  k_with "!lt9" => with_reducible first | exact And.left (by k_extra "!c1") | exact And.right (by k_extra "!c1") | fail
  k_with "!omega" => with_reducible first | exact lt_dp (by assumption) (by with_unfolding_all exact rfl) | exact lt_un (by assumption) (by with_unfolding_all exact rfl) | assumption | exact Ne.symm (by assumption) | exact Nat.ne_of_lt (by assumption) | exact Nat.ne_of_gt (by assumption) | exact le_big (by assumption) (by with_unfolding_all exact rfl) | exact le_big2 (by assumption) (by with_unfolding_all exact rfl) | exact lt_big (by assumption) (by with_unfolding_all exact rfl) | exact Nat.le_of_ble_eq_true (by with_unfolding_all exact rfl) | exact Nat.ne_of_gt (lt_s (by assumption)) | exact Nat.ne_of_gt (lt_s (lt_s (by assumption))) | exact Nat.ne_of_gt (lt_s (lt_s (lt_s (by assumption)))) | exact Nat.ne_of_lt (by k_extra "!lt9") | exact Nat.ne_of_gt (by k_extra "!lt9") | (refine Nat.lt_of_lt_of_le ?_ (Nat.le_refl _); k_extra "!lt9") | fail
  k_with "!k_all" => first | exact ne_of_allLt (by assumption) | exact ne_of_allLt (And.right (by assumption)) | exact ne_of_allLt (And.right (And.right (by assumption)))
  k_with "!sub" => first | exact fun _ h => h | (with_reducible assumption) | exact sub_app (by assumption) | exact sub_app (fun _ h => h) | exact (fun _ h => List.mem_append_right _ h) | (refine sub_cc ?_; k_extra "!sub") | (refine sub_tl ?_; k_extra "!sub")
  k_with "!U" => ((case B => assumption); (case F => k_asm); (case X => assumption); (case T => assumption); (case hf => exact rfl); (case hk => exact rfl); (case N => k_asm); (case hs => k_extra "!sub"); (case hdp => ((try dsimp only); omega)); (case hun => ((try dsimp only); omega)); k_whole)
  k_with "!k_handed" => with_reducible assumption
  k_with "!k_all" => first | exact ne_of_allNe (by assumption) | exact ne_of_allNe (And.right (by assumption)) | exact ne_of_allNe (And.right (And.right (by assumption)))
  k_with "!call ref" => k_extra "call ref"
  k_with "!k_all" => first | exact ne_of_lts2 (by assumption) | (with_reducible assumption)
  k_with "!k_mem" => assumption
  k_with "!callWith ref" => (k_here; k_dflt (first | (refine' callWith_K ?k1 ?k2 ?_; (case k1 => k_asm); (case k2 => k_is); k_whole) | (refine' callWith_K0 ?k1 ?k2 ?_; (case k1 => k_in); (case k2 => k_is); k_whole) | (refine' callWith_M0 ?k1 ?k2 ?_; (case k1 => k_meth); (case k2 => k_is); k_whole; try dsimp only [List.nil_append, List.cons_append]) | (refine' callWith_M ?k1 ?k2 ?k3 ?k4 ?_; (case k1 => k_asm); (case k2 => k_asm); (case k3 => k_mem); (case k4 => k_is); k_whole) | (refine' callWith_F ?k1 ?_; (case k1 => exact FnAt.of (by k_asm) (by k_mem)); k_whole)))
  k_with "!exec For Name Call cons nil" => k_extra "exec For"
  k_with "!pyIter ref" => k_extra "pyIter ref"
  trivial

def Shape.numbers (S : Shape) (p b : Nat → Bool) (i : Nat) : List Nat := ((S.upTo b i).filter p).map (S.place p)

theorem Shape.upTo_lt {S : Shape} {τ : TreeC} (hS : S.Of τ) {b : Nat → Bool} {i : Nat} (hi : i < S.n) : ∀ c ∈ S.upTo b i, c < S.n := fun c hc =>
  Shape.up_lt hS (i + 1) i (Nat.lt_succ_self i) hi c ((List.takeWhile_sublist _).mem hc)
theorem Shape.upTo_len {S : Shape} {τ : TreeC} (hS : S.Of τ) {b : Nat → Bool} {i : Nat} (hi : i < S.n) : (S.upTo b i).length ≤ S.n :=
  Nat.le_trans (List.takeWhile_sublist _).length_le (Shape.up_len hS hi)

theorem single_spec {w : World} {S : Shape} {τ : TreeC} (hS : S.Of τ) {i : Nat} {ti : Tok} (hi : i < S.n) {FP : List (Addr × Obj)} (hs : ∀ q ∈ τ.led w, q ∈ FP) {fp fb : Addr} {p b : Nat → Bool} (hfp : Cb w fp 3 FP S.n p) (hfb : Cb w fb 3 FP S.n b) {h : Heap} :
    Spec w (.ref 49) [.ref τ.aT, .int i ti, .ref fp, .ref fb] 15 FP (fun v h' => (∃ D o, v = .ref D ∧ h.get? D = none ∧ h'.get? D = some o ∧ ∃ us ed, o = listOf us.toArray ed ∧ IntsAre us (natInts ((S.numbers p b i).take 1))) ∧ ∀ q ∈ FP, h'.get? q.1 = some q.2) h := by
  refine enter (binds := [(Str.ofString "tree", .ref τ.aT), (Str.ofString "node", .int i ti), (Str.ofString "is_counted", .ref fp), (Str.ofString "is_begin", .ref fb)]) (by k_is) (by k_is) (fun s => BindsTo.of_eq rfl) (locs rfl) rfl rfl rfl (by decide) ?_
  intro dp un gd env outer A₀ base g L' h₁ p' loose mean mg mb gs ds tk os B X T F N lt hdp hun kp
  k_fold
  k_with_none
  k_with "!c1" => first | assumption | exact And.right (by k_extra "!c2") | fail
  k_with "!c2" => first | assumption | exact And.right (by k_extra "!c3") | fail
  k_with "!c3" => first | assumption | exact And.right (by k_extra "!c4") | fail
  k_with "!c4" => first | assumption | exact And.right (by k_extra "!c5") | fail
  k_with "!c5" => first | assumption | exact And.right (by k_extra "!c6") | fail
  k_with "!c6" => first | assumption | exact And.right (by k_extra "!c7") | fail
  k_with "!c7" => first | assumption | exact And.right (by k_extra "!c8") | fail
  k_with "!c8" => assumption
  k_with "!lt9" => with_reducible first | exact And.left (by k_extra "!c1") | exact And.right (by k_extra "!c1") | fail
  k_with "!omega" => with_reducible first | exact lt_dp (by assumption) (by with_unfolding_all exact rfl) | exact lt_un (by assumption) (by with_unfolding_all exact rfl) | assumption | exact Ne.symm (by assumption) | exact Nat.ne_of_lt (by assumption) | exact Nat.ne_of_gt (by assumption) | exact le_big (by assumption) (by with_unfolding_all exact rfl) | exact le_big2 (by assumption) (by with_unfolding_all exact rfl) | exact lt_big (by assumption) (by with_unfolding_all exact rfl) | exact Nat.le_of_ble_eq_true (by with_unfolding_all exact rfl) | exact Nat.ne_of_gt (lt_s (by assumption)) | exact Nat.ne_of_gt (lt_s (lt_s (by assumption))) | exact Nat.ne_of_gt (lt_s (lt_s (lt_s (by assumption)))) | exact Nat.ne_of_lt (by k_extra "!lt9") | exact Nat.ne_of_gt (by k_extra "!lt9") | (refine Nat.lt_of_lt_of_le ?_ (Nat.le_refl _); k_extra "!lt9") | fail
  k_with "!k_all" => first | exact ne_of_allLt (by assumption) | exact ne_of_allLt (And.right (by assumption)) | exact ne_of_allLt (And.right (And.right (by assumption)))
  k_with "!sub" => first | exact fun _ h => h | (with_reducible assumption) | exact sub_app (by assumption) | exact sub_app (fun _ h => h) | exact (fun _ h => List.mem_append_right _ h) | (refine sub_cc ?_; k_extra "!sub") | (refine sub_tl ?_; k_extra "!sub")
  k_with "!U" => ((case B => assumption); (case F => k_asm); (case X => assumption); (case T => assumption); (case hf => exact rfl); (case hk => exact rfl); (case N => k_asm); (case hs => k_extra "!sub"); (case hdp => ((try dsimp only); omega)); (case hun => ((try dsimp only); omega)); k_whole)
  k_with "!k_handed" => with_reducible assumption
  k_with "!k_all" => first | exact ne_of_allNe (by assumption) | exact ne_of_allNe (And.right (by assumption)) | exact ne_of_allNe (And.right (And.right (by assumption)))
  k_with "!call ref" => k_extra "call ref"
  k_with "!k_all" => first | exact ne_of_lts2 (by assumption) | (with_reducible assumption)
  k_with "!k_mem" => assumption
  k_with "!callWith ref" => (k_here; k_dflt (first | (refine' callWith_K ?k1 ?k2 ?_; (case k1 => k_asm); (case k2 => k_is); k_whole) | (refine' callWith_K0 ?k1 ?k2 ?_; (case k1 => k_in); (case k2 => k_is); k_whole) | (refine' callWith_M0 ?k1 ?k2 ?_; (case k1 => k_meth); (case k2 => k_is); k_whole; try dsimp only [List.nil_append, List.cons_append]) | (refine' callWith_M ?k1 ?k2 ?k3 ?k4 ?_; (case k1 => k_asm); (case k2 => k_asm); (case k3 => k_mem); (case k4 => k_is); k_whole) | (refine' callWith_F ?k1 ?_; (case k1 => exact FnAt.of (by k_asm) (by k_mem)); k_whole)))
  k_with "!exec For Name Call cons nil" => k_extra "exec For"
  k_with "!pyIter ref" => k_extra "pyIter ref"
  have hfp' := hfp
  obtain ⟨⟨oc, od, fd, sl, hfo⟩, hcb⟩ := hfp'
  have hul := Shape.upTo_len hS (b := b) hi
  have hsm := hS.small
  k_with "call ref" =>
    refine' use_new (upto_spec hS hi hs hfb) ?B ?F ?X ?T ?hf ?hk ?N ?hs ?hdp ?hun ?_
    walk_at "U"
    intro D' o' h' tk' F' N' ne' nL' ka' hv'
    obtain ⟨us', ed', hv', hU'⟩ := hv'
    subst hv'
    (try simp only [AllNe] at ne')
  k_with "pyIter ref" =>
    rename Fr _ _ _ _ => lF
    rename News _ _ _ _ => lN
    refine' iter_my (vs := us') (fun k m nx => nx = (D', listOf us'.toArray ed') :: FP ∧ m (Str.ofString "tree") = some (.ref τ.aT) ∧ m (Str.ofString "is_counted") = some (.ref fp) ∧ ∀ c ∈ (S.upTo b i).take k, p c = false) rfl (by k_mem) lF lN ?j0 ?turn ?done
  k_steps
  · exact ⟨⟨rfl, rfl, rfl, by simp⟩⟩
  · refine ⟨fun k v m₁ news₁ h₂ tk₂ own hv hoff hmem hJ F₁ N₁ => ?_⟩
    obtain ⟨rfl, e1, e2, hall⟩ := hJ
    obtain ⟨x, tx, hx, rfl⟩ := natInts_get hU' hv
    have F₂ := fr_pinsX (l := [(Str.ofString "tree", _), (Str.ofString "is_counted", _)]) F₁ (all2 e1 e2)
    clear F₁
    simp only [List.cons_append] at N₁
    have hxn : x < S.n := Shape.upTo_lt hS hi x (List.mem_of_getElem? hx)
    have hfo' : _ ∈ FP ++ own := List.mem_append_left _ hfo
    k_with "call ref" =>
      first
      | (refine' use_ro (hcb x tx _ hxn) ?B ?F ?X ?T ?hf ?hk ?N ?hs ?hdp ?hun ?_
         walk_at "U"
         intro v' h' tk' F' N' ka' hv'
         subst hv')
      | (refine' use_ro (place_spec hS hxn hs hfp) ?B ?F ?X ?T ?hf ?hk ?N ?hs ?hdp ?hun ?_
         walk_at "U"
         intro v' h' tk' F' N' ka' hv'
         obtain ⟨t9, hv'⟩ := hv'
         subst hv')
    k_steps
    · rename (p x = true) => hpx
      rename News _ _ _ _ => N₃
      rename (_ ∧ AllLt _ _) => l9
      have hD9 : ∀ q ∈ FP, q.1 ≠ _ := fun q hq => ne_of_allLt (And.right l9) q (List.mem_append_left _ hq)
      refine ⟨_, _, _, rfl, by assumption, ⟨⟨_, _, rfl, fresh_of kp N₃ (.head _) hD9, (N₃ _ (.head _)).1, _, _, rfl, ?_⟩, led_of N₃ (by walk_at "sub")⟩⟩
      have e9 : (S.numbers p b i).take 1 = [S.place p x] := by
        rw [Shape.numbers, ← List.take_append_drop k (S.upTo b i), List.filter_append, List.filter_eq_nil_iff.mpr (fun y hy => by rw [hall y hy]; simp), List.nil_append, List.drop_eq_getElem_cons (List.getElem?_eq_some_iff.mp hx).1, (List.getElem?_eq_some_iff.mp hx).2, List.filter_cons, if_pos hpx]
        simp
      rw [e9]
      exact .cons _ _ .nil
    · rename (p x = false) => hpx
      rename News _ _ _ _ => N₃
      rename Fr _ _ _ _ => F₃
      refine InvEndG.intro F₃ N₃ ⟨.head _, rfl, rfl, rfl, ?_⟩ hoff (by walk_at "sub") (by walk_at "sub")
      rw [take_snoc hx]; intro y hy; rcases List.mem_append.mp hy with hy | hy; exact hall y hy; rw [List.mem_singleton.mp hy, hpx]
  · refine ⟨fun m₁ news₁ h₂ tk₂ hJ F₁ N₁ => ?_⟩
    obtain ⟨rfl, e1, e2, hall⟩ := hJ
    k_steps
    rename News _ _ _ _ => N₃
    rename (_ ∧ AllLt _ _) => l9
    have hD9 : ∀ q ∈ FP, q.1 ≠ _ := fun q hq => ne_of_allLt (And.right l9) q hq
    refine ⟨_, _, _, rfl, by assumption, ⟨⟨_, _, rfl, fresh_of kp N₃ (.head _) hD9, (N₃ _ (.head _)).1, _, _, rfl, ?_⟩, led_of N₃ (by walk_at "sub")⟩⟩
    have hl9 : us'.length = (S.upTo b i).length := by rw [hU'.length]; simp [natInts]
    rw [hl9, List.take_length] at hall
    rw [Shape.numbers, List.filter_eq_nil_iff.mpr (fun y hy => by rw [hall y hy]; simp)]
    exact .nil
end
section
example : True := by
  w_top off
  k_with_none
  k_with "!c1" => first | assumption | exact And.right (by k_extra "!c2") | fail
  k_with "!c2" => first | assumption | exact And.right (by k_extra "!c3") | fail
  k_with "!c3" => first | assumption | exact And.right (by k_extra "!c4") | fail
  k_with "!c4" => first | assumption | exact And.right (by k_extra "!c5") | fail
  k_with "!c5" => first | assumption | exact And.right (by k_extra "!c6") | fail
  k_with "!c6" => first | assumption | exact And.right (by k_extra "!c7") | fail
  k_with "!c7" => first | assumption | exact And.right (by k_extra "!c8") | fail
  k_with "!c8" => assumption
  k_with "!lt9" => with_reducible first | exact And.left (by k_extra "!c1") | exact And.right (by k_extra "!c1") | fail
  k_with "!omega" => with_reducible first | exact lt_dp (by assumption) (by with_unfolding_all exact rfl) | exact lt_un (by assumption) (by with_unfolding_all exact rfl) | assumption | exact Ne.symm (by assumption) | exact Nat.ne_of_lt (by assumption) | exact Nat.ne_of_gt (by assumption) | exact le_big (by assumption) (by with_unfolding_all exact rfl) | exact le_big2 (by assumption) (by with_unfolding_all exact rfl) | exact lt_big (by assumption) (by with_unfolding_all exact rfl) | exact Nat.le_of_ble_eq_true (by with_unfolding_all exact rfl) | exact Nat.ne_of_gt (lt_s (by assumption)) | exact Nat.ne_of_gt (lt_s (lt_s (by assumption))) | exact Nat.ne_of_gt (lt_s (lt_s (lt_s (by assumption)))) | exact Nat.ne_of_lt (by k_extra "!lt9") | exact Nat.ne_of_gt (by k_extra "!lt9") | (refine Nat.lt_of_lt_of_le ?_ (Nat.le_refl _); k_extra "!lt9") | fail
  k_with "!k_all" => first | exact ne_of_allLt (by assumption) | exact ne_of_allLt (And.right (by assumption)) | exact ne_of_allLt (And.right (And.right (by assumption)))
  k_with "!sub" => first | exact fun _ h => h | (with_reducible assumption) | exact sub_app (by assumption) | exact sub_app (fun _ h => h) | exact (fun _ h => List.mem_append_right _ h) | (refine sub_cc ?_; k_extra "!sub") | (refine sub_tl ?_; k_extra "!sub")
  k_with "!U" => ((case B => assumption); (case F => k_asm); (case X => assumption); (case T => assumption); (case hf => exact rfl); (case hk => exact rfl); (case N => k_asm); (case hs => k_extra "!sub"); (case hdp => ((try dsimp only); omega)); (case hun => ((try dsimp only); omega)); k_whole)
  k_with "!k_handed" => with_reducible assumption
  k_with "!k_all" => first | exact ne_of_allNe (by assumption) | exact ne_of_allNe (And.right (by assumption)) | exact ne_of_allNe (And.right (And.right (by assumption)))
  k_with "!call ref" => k_extra "call ref"
  k_with "!k_all" => first | exact ne_of_lts2 (by assumption) | (with_reducible assumption)
  k_with "!k_mem" => assumption
  k_with "!callWith ref" => (k_here; k_dflt (first | (refine' callWith_K ?k1 ?k2 ?_; (case k1 => k_asm); (case k2 => k_is); k_whole) | (refine' callWith_K0 ?k1 ?k2 ?_; (case k1 => k_in); (case k2 => k_is); k_whole) | (refine' callWith_M0 ?k1 ?k2 ?_; (case k1 => k_meth); (case k2 => k_is); k_whole; try dsimp only [List.nil_append, List.cons_append]) | (refine' callWith_M ?k1 ?k2 ?k3 ?k4 ?_; (case k1 => k_asm); (case k2 => k_asm); (case k3 => k_mem); (case k4 => k_is); k_whole) | (refine' callWith_F ?k1 ?_; (case k1 => exact FnAt.of (by k_asm) (by k_mem)); k_whole)))
  k_with "!exec For Name Call cons nil" => k_extra "exec For"
  k_with "!pyIter ref" => k_extra "pyIter ref"
  k_with "!revslice" => (k_here; (with_reducible show wpAny _ _ (subscriptTail _ (PySem.Expr.Slice none none (some _) _) (Value.ref _) (Value.ref _)) _ _ _); k_dflt (refine' krv_ints ?F ?N ?l ?k ?i ?_ ?s ?t ?z; (case F => k_asm); (case N => k_asm); (case l => exact L_isList (by k_asm) (by k_mem)); (case k => exact IsPart.int _ _); (case i => assumption); (case s => with_unfolding_all rfl); (case t => (intro _; with_unfolding_all rfl)); (case z => (rw [List.size_toArray, sizeLine_eq]; omega))); intro zqD zqws zqh zqF zqN zql1 zqhI zqhC; (have zqhW := IntsAre.length zqhI); (replace zql1 := allLt_of zql1); (try simp only [AllLt, and_true] at zql1))
  k_with "!subscriptTail Name Slice ref ref" => k_extra "!revslice"
  trivial

theorem multi_spec {w : World} {S : Shape} {τ : TreeC} (hS : S.Of τ) {i : Nat} {ti : Tok} (hi : i < S.n) {FP : List (Addr × Obj)} (hs : ∀ q ∈ τ.led w, q ∈ FP) {fp fb : Addr} {p b : Nat → Bool} (hfp : Cb w fp 3 FP S.n p) (hfb : Cb w fb 3 FP S.n b) {h : Heap} :
    Spec w (.ref 56) [.ref τ.aT, .int i ti, .ref fp, .ref fb] 15 FP (fun v h' => (∃ D o, v = .ref D ∧ h.get? D = none ∧ h'.get? D = some o ∧ ∃ us ed, o = listOf us.toArray ed ∧ IntsAre us (natInts (S.numbers p b i).reverse)) ∧ ∀ q ∈ FP, h'.get? q.1 = some q.2) h := by
  refine enter (binds := [(Str.ofString "tree", .ref τ.aT), (Str.ofString "node", .int i ti), (Str.ofString "is_counted", .ref fp), (Str.ofString "is_begin", .ref fb)]) (by k_is) (by k_is) (fun s => BindsTo.of_eq rfl) (locs rfl) rfl rfl rfl (by decide) ?_
  intro dp un gd env outer A₀ base g L' h₁ p' loose mean mg mb gs ds tk os B X T F N lt hdp hun kp
  k_fold
  k_with_none
  k_with "!c1" => first | assumption | exact And.right (by k_extra "!c2") | fail
  k_with "!c2" => first | assumption | exact And.right (by k_extra "!c3") | fail
  k_with "!c3" => first | assumption | exact And.right (by k_extra "!c4") | fail
  k_with "!c4" => first | assumption | exact And.right (by k_extra "!c5") | fail
  k_with "!c5" => first | assumption | exact And.right (by k_extra "!c6") | fail
  k_with "!c6" => first | assumption | exact And.right (by k_extra "!c7") | fail
  k_with "!c7" => first | assumption | exact And.right (by k_extra "!c8") | fail
  k_with "!c8" => assumption
  k_with "!lt9" => with_reducible first | exact And.left (by k_extra "!c1") | exact And.right (by k_extra "!c1") | fail
  k_with "!omega" => with_reducible first | exact lt_dp (by assumption) (by with_unfolding_all exact rfl) | exact lt_un (by assumption) (by with_unfolding_all exact rfl) | assumption | exact Ne.symm (by assumption) | exact Nat.ne_of_lt (by assumption) | exact Nat.ne_of_gt (by assumption) | exact le_big (by assumption) (by with_unfolding_all exact rfl) | exact le_big2 (by assumption) (by with_unfolding_all exact rfl) | exact lt_big (by assumption) (by with_unfolding_all exact rfl) | exact Nat.le_of_ble_eq_true (by with_unfolding_all exact rfl) | exact Nat.ne_of_gt (lt_s (by assumption)) | exact Nat.ne_of_gt (lt_s (lt_s (by assumption))) | exact Nat.ne_of_gt (lt_s (lt_s (lt_s (by assumption)))) | exact Nat.ne_of_lt (by k_extra "!lt9") | exact Nat.ne_of_gt (by k_extra "!lt9") | (refine Nat.lt_of_lt_of_le ?_ (Nat.le_refl _); k_extra "!lt9") | fail
  k_with "!k_all" => first | exact ne_of_allLt (by assumption) | exact ne_of_allLt (And.right (by assumption)) | exact ne_of_allLt (And.right (And.right (by assumption)))
  k_with "!sub" => first | exact fun _ h => h | (with_reducible assumption) | exact sub_app (by assumption) | exact sub_app (fun _ h => h) | exact (fun _ h => List.mem_append_right _ h) | (refine sub_cc ?_; k_extra "!sub") | (refine sub_tl ?_; k_extra "!sub")
  k_with "!U" => ((case B => assumption); (case F => k_asm); (case X => assumption); (case T => assumption); (case hf => exact rfl); (case hk => exact rfl); (case N => k_asm); (case hs => k_extra "!sub"); (case hdp => ((try dsimp only); omega)); (case hun => ((try dsimp only); omega)); k_whole)
  k_with "!k_handed" => with_reducible assumption
  k_with "!k_all" => first | exact ne_of_allNe (by assumption) | exact ne_of_allNe (And.right (by assumption)) | exact ne_of_allNe (And.right (And.right (by assumption)))
  k_with "!call ref" => k_extra "call ref"
  k_with "!k_all" => first | exact ne_of_lts2 (by assumption) | (with_reducible assumption)
  k_with "!k_mem" => assumption
  k_with "!callWith ref" => (k_here; k_dflt (first | (refine' callWith_K ?k1 ?k2 ?_; (case k1 => k_asm); (case k2 => k_is); k_whole) | (refine' callWith_K0 ?k1 ?k2 ?_; (case k1 => k_in); (case k2 => k_is); k_whole) | (refine' callWith_M0 ?k1 ?k2 ?_; (case k1 => k_meth); (case k2 => k_is); k_whole; try dsimp only [List.nil_append, List.cons_append]) | (refine' callWith_M ?k1 ?k2 ?k3 ?k4 ?_; (case k1 => k_asm); (case k2 => k_asm); (case k3 => k_mem); (case k4 => k_is); k_whole) | (refine' callWith_F ?k1 ?_; (case k1 => exact FnAt.of (by k_asm) (by k_mem)); k_whole)))
  k_with "!exec For Name Call cons nil" => k_extra "exec For"
  k_with "!pyIter ref" => k_extra "pyIter ref"
  k_with "!revslice" => (k_here; (with_reducible show wpAny _ _ (subscriptTail _ (PySem.Expr.Slice none none (some _) _) (Value.ref _) (Value.ref _)) _ _ _); k_dflt (refine' krv_ints ?F ?N ?l ?k ?i ?_ ?s ?t ?z; (case F => k_asm); (case N => k_asm); (case l => exact L_isList (by k_asm) (by k_mem)); (case k => exact IsPart.int _ _); (case i => assumption); (case s => with_unfolding_all rfl); (case t => (intro _; with_unfolding_all rfl)); (case z => (rw [List.size_toArray, sizeLine_eq]; omega))); intro zqD zqws zqh zqF zqN zql1 zqhI zqhC; (have zqhW := IntsAre.length zqhI); (replace zql1 := allLt_of zql1); (try simp only [AllLt, and_true] at zql1))
  k_with "!subscriptTail Name Slice ref ref" => k_extra "!revslice"
  have hfp' := hfp
  obtain ⟨⟨oc, od, fd, sl, hfo⟩, hcb⟩ := hfp'
  have hul := Shape.upTo_len hS (b := b) hi
  have hsm := hS.small
  k_with "call ref" =>
    refine' use_new (upto_spec hS hi hs hfb) ?B ?F ?X ?T ?hf ?hk ?N ?hs ?hdp ?hun ?_
    walk_at "U"
    intro D' o' h' tk' F' N' ne' nL' ka' hv'
    obtain ⟨us', ed', hv', hU'⟩ := hv'
    subst hv'
    (try simp only [AllNe] at ne')
  k_with "pyIter ref" =>
    rename Fr _ _ _ _ => lF
    rename News _ _ _ _ => lN
    refine' iter_my (vs := us') (fun k m nx => ∃ D us c, nx = (D', listOf us'.toArray ed') :: (D, listOf us.toArray c) :: FP ∧ m (Str.ofString "tree") = some (.ref τ.aT) ∧ m (Str.ofString "is_counted") = some (.ref fp) ∧ m (Str.ofString "found") = some (.ref D) ∧
      @Ne Nat D D' ∧ (∀ p ∈ FP, p.1 ≠ D) ∧ IntsAre us (natInts ((((S.upTo b i).take k).filter p).map (S.place p)))) rfl (by k_mem) lF lN ?j0 ?turn ?done
  k_steps
  · rename (∀ p ∈ FP, p.1 < _) => l9
    exact ⟨⟨_, [], 0, rfl, rfl, rfl, rfl, ne'.1, ne_of_lts2 l9, .nil⟩⟩
  · refine ⟨fun k v m₁ news₁ h₂ tk₂ own hv hoff hmem hJ F₁ N₁ => ?_⟩
    obtain ⟨D, us, c, rfl, e1, e2, e3, hDl, hDF, hI⟩ := hJ
    obtain ⟨x, tx, hx, rfl⟩ := natInts_get hU' hv
    have F₂ := fr_pinsX (l := [(Str.ofString "tree", _), (Str.ofString "is_counted", _), (Str.ofString "found", _)]) F₁ (allC e1 (all2 e2 e3))
    clear F₁
    simp only [List.cons_append] at N₁
    have hxn : x < S.n := Shape.upTo_lt hS hi x (List.mem_of_getElem? hx)
    have hfo' : _ ∈ FP ++ own := List.mem_append_left _ hfo
    have hz9 : us.length ≤ 200 := by rw [hI.length]; simp only [natInts, List.length_map]; exact Nat.le_trans (List.length_filter_le _ _) (by rw [List.length_take]; omega)
    have hoD : ∀ p ∈ FP ++ own, p.1 ≠ D := fun p hp => (List.mem_append.mp hp).elim (hDF p) fun h => hoff p h D (by simp)
    k_with "call ref" =>
      first
      | (refine' use_ro (hcb x tx _ hxn) ?B ?F ?X ?T ?hf ?hk ?N ?hs ?hdp ?hun ?_
         walk_at "U"
         intro v' h' tk' F' N' ka' hv'
         subst hv')
      | (refine' use_ro (place_spec hS hxn hs hfp) ?B ?F ?X ?T ?hf ?hk ?N ?hs ?hdp ?hun ?_
         walk_at "U"
         intro v' h' tk' F' N' ka' hv'
         obtain ⟨t9, hv'⟩ := hv'
         subst hv')
    k_steps
    · rename (p x = true) => hpx
      rename News _ _ _ _ => N₃
      rename Fr _ _ _ _ => F₃
      simp only [List.push_toArray] at N₃
      refine InvEndG.intro F₃ N₃ ⟨.head _, D, us ++ [.int (S.place p x : Int) t9], c + 1, rfl, rfl, rfl, rfl, hDl, hDF, ?_⟩ hoff (by walk_at "sub") (by walk_at "sub")
      rw [take_snoc hx, List.filter_append, List.map_append, List.filter_cons, if_pos hpx]
      simp only [List.filter_nil, List.map_cons, List.map_nil, natInts_snoc]
      exact ints_snoc hI
    · rename (p x = false) => hpx
      rename News _ _ _ _ => N₃
      rename Fr _ _ _ _ => F₃
      refine InvEndG.intro F₃ N₃ ⟨.head _, D, us, c, rfl, rfl, rfl, rfl, hDl, hDF, ?_⟩ hoff (by walk_at "sub") (by walk_at "sub")
      rw [take_snoc hx, List.filter_append, List.filter_cons, hpx]
      simpa using hI
  · refine ⟨fun m₁ news₁ h₂ tk₂ hJ F₁ N₁ => ?_⟩
    obtain ⟨D, us, c, rfl, e1, e2, e3, hDl, hDF, hI⟩ := hJ
    have F₂ := fr_pins (l := [(Str.ofString "found", _)]) F₁ (fun q hq => by rw [List.mem_singleton.mp hq]; exact e3)
    clear F₁
    have hz9 : us.length ≤ 200 := by rw [hI.length]; simp only [natInts, List.length_map]; exact Nat.le_trans (List.length_filter_le _ _) (by rw [List.length_take]; omega)
    k_steps
    rename News _ _ _ _ => N₃
    rename (_ ∧ _ ∧ AllLt _ _) => l9
    rename (IntsAre _ (List.reverse _)) => hI9
    have hD9 : ∀ q ∈ FP, q.1 ≠ _ := fun q hq => ne_of_allLt (And.right (And.right l9)) q hq
    refine ⟨_, _, _, rfl, by assumption, ⟨⟨_, _, rfl, fresh_of kp N₃ (.head _) hD9, (N₃ _ (.head _)).1, _, _, rfl, ?_⟩, led_of N₃ (by walk_at "sub")⟩⟩
    have hl9 : us'.length = (S.upTo b i).length := by rw [hU'.length]; simp [natInts]
    rw [hl9, List.take_length] at hI9
    rw [Shape.numbers, show ∀ l, natInts (List.reverse l) = (natInts l).reverse from fun l => by simp [natInts]]
    exact hI9
end
section
example : True := by
  w_top off
  k_with_none
  k_with "!c1" => first | assumption | exact And.right (by k_extra "!c2") | fail
  k_with "!c2" => first | assumption | exact And.right (by k_extra "!c3") | fail
  k_with "!c3" => first | assumption | exact And.right (by k_extra "!c4") | fail
  k_with "!c4" => first | assumption | exact And.right (by k_extra "!c5") | fail
  k_with "!c5" => first | assumption | exact And.right (by k_extra "!c6") | fail
  k_with "!c6" => first | assumption | exact And.right (by k_extra "!c7") | fail
  k_with "!c7" => first | assumption | exact And.right (by k_extra "!c8") | fail
  k_with "!c8" => assumption
  k_with "!lt9" => with_reducible first | exact And.left (by k_extra "!c1") | exact And.right (by k_extra "!c1") | fail
  k_with "!omega" => with_reducible first | exact lt_dp (by assumption) (by with_unfolding_all exact rfl) | exact lt_un (by assumption) (by with_unfolding_all exact rfl) | assumption | exact Ne.symm (by assumption) | exact Nat.ne_of_lt (by assumption) | exact Nat.ne_of_gt (by assumption) | exact le_big (by assumption) (by with_unfolding_all exact rfl) | exact le_big2 (by assumption) (by with_unfolding_all exact rfl) | exact lt_big (by assumption) (by with_unfolding_all exact rfl) | exact Nat.le_of_ble_eq_true (by with_unfolding_all exact rfl) | exact Nat.ne_of_gt (lt_s (by assumption)) | exact Nat.ne_of_gt (lt_s (lt_s (by assumption))) | exact Nat.ne_of_gt (lt_s (lt_s (lt_s (by assumption)))) | exact Nat.ne_of_lt (by k_extra "!lt9") | exact Nat.ne_of_gt (by k_extra "!lt9") | (refine Nat.lt_of_lt_of_le ?_ (Nat.le_refl _); k_extra "!lt9") | fail
  k_with "!call builtin:len" => (k_here; (with_reducible show wpAny _ _ (call (Value.builtin "len") [Value.ref _]) _ _ _); k_dflt (refine' L_len ?N ?m ?z ?_; (case N => k_asm); (case m => k_mem); (case z => omega); k_whole))
  k_with "!item" => first | (k_here; (with_reducible show wpAny _ _ (subscriptTail _ _ (Value.ref _) (Value.int _ _)) _ _ _); k_dflt (refine' kim_list ?N ?m ?c ?d ?z ?f ?x ?_; (case N => k_asm); (case m => k_mem); (case c => rfl); (case d => rfl); (case z => omega); (case f => omega); (case x => (try simp only [Int.toNat_natCast]); first | assumption | rfl | exact List.getElem?_eq_getElem (by omega)); k_whole)) | (k_here; (with_reducible show wpAny _ _ (subscriptTail _ _ (Value.ref _) (Value.int _ _)) _ _ _); k_dflt (refine' kda_item (knd := PySem.intKind _ _) ?N ?m ?d (intKind_is _ _ _ _) ?v ?_; (case N => k_asm); (case d => assumption); (case m => k_mem); (case v => assumption); k_whole))
  k_with "!subscriptTail" => k_extra "!item"
  k_with "!subscriptTail Name Constant ref int" => k_extra "!item"
  k_with "!subscriptTail Name Name ref int" => k_extra "!item"
  k_with "!k_all" => first | exact ne_of_allLt (by assumption) | exact ne_of_allLt (And.right (by assumption)) | exact ne_of_allLt (And.right (And.right (by assumption)))
  k_with "!sub" => first | exact fun _ h => h | (with_reducible assumption) | exact sub_app (by assumption) | exact sub_app (fun _ h => h) | exact (fun _ h => List.mem_append_right _ h) | (refine sub_cc ?_; k_extra "!sub") | (refine sub_tl ?_; k_extra "!sub")
  k_with "!U" => ((case B => assumption); (case F => k_asm); (case X => assumption); (case T => assumption); (case hf => exact rfl); (case hk => exact rfl); (case N => k_asm); (case hs => k_extra "!sub"); (case hdp => ((try dsimp only); omega)); (case hun => ((try dsimp only); omega)); k_whole)
  k_with "!k_handed" => with_reducible assumption
  k_with "!call type:list" => (k_here; (with_reducible show wpAny _ _ (call (Value.type "list") [Value.ref _]) _ _ _); k_dflt (refine' L_copy ?F ?N ?m ?z ?_; (case F => k_asm); (case N => k_asm); (case m => k_mem); (case z => omega); k_whole); intro zqD zqc zqh zqF zqN zql1; (try simp only [AllLt, and_true] at zql1))
  k_with "!k_all" => first | exact ne_of_allNe (by assumption) | exact ne_of_allNe (And.right (by assumption)) | exact ne_of_allNe (And.right (And.right (by assumption)))
  k_with "!subscriptTail Name Call ref int" => k_extra "!item"
  k_with "!exec While Compare cons nil" => k_extra "exec While Compare cons nil"
  k_with "!call ref" => k_extra "call ref"
  k_with "!k_all" => first | exact ne_of_lts2 (by assumption) | (with_reducible assumption)
  k_with "!k_mem" => assumption
  k_with "!callWith ref" => (k_here; k_dflt (first | (refine' callWith_K ?k1 ?k2 ?_; (case k1 => k_asm); (case k2 => k_is); k_whole) | (refine' callWith_K0 ?k1 ?k2 ?_; (case k1 => k_in); (case k2 => k_is); k_whole) | (refine' callWith_M0 ?k1 ?k2 ?_; (case k1 => k_meth); (case k2 => k_is); k_whole; try dsimp only [List.nil_append, List.cons_append]) | (refine' callWith_M ?k1 ?k2 ?k3 ?k4 ?_; (case k1 => k_asm); (case k2 => k_asm); (case k3 => k_mem); (case k4 => k_is); k_whole) | (refine' callWith_F ?k1 ?_; (case k1 => exact FnAt.of (by k_asm) (by k_mem)); k_whole)))
  k_with "!exec For Name Call cons nil" => k_extra "exec For"
  k_with "!exec For Name Name cons nil" => k_extra "exec For"
  k_with "!exec For Name Attribute cons nil" => k_extra "exec For"
  k_with "!pyIter ref" => k_extra "pyIter ref"
  k_with "!revslice" => (k_here; (with_reducible show wpAny _ _ (subscriptTail _ (PySem.Expr.Slice none none (some _) _) (Value.ref _) (Value.ref _)) _ _ _); k_dflt (refine' krv_ints ?F ?N ?l ?k ?i ?_ ?s ?t ?z; (case F => k_asm); (case N => k_asm); (case l => exact L_isList (by k_asm) (by k_mem)); (case k => exact IsPart.int _ _); (case i => assumption); (case s => with_unfolding_all rfl); (case t => (intro _; with_unfolding_all rfl)); (case z => (rw [List.size_toArray, sizeLine_eq]; omega))); intro zqD zqws zqh zqF zqN zql1 zqhI zqhC; (have zqhW := IntsAre.length zqhI); (replace zql1 := allLt_of zql1); (try simp only [AllLt, and_true] at zql1))
  k_with "!subscriptTail Name Slice ref ref" => k_extra "!revslice"
  k_with "!subscriptTail Subscript Slice ref ref" => k_extra "!revslice"
  k_with "!subscriptTail Subscript Constant ref int" => k_extra "!item"
  k_with "!compareOp In int ref" => (k_here; k_dflt (refine' in_list_ints ?hl ?hi ?_; (case hl => exact L_isList (by k_asm) (by k_mem)); (case hi => assumption); k_whole))
  trivial

section
open PyProof.Rows.LCg PyProof.Rows.LCt
variable {prog : Program} {w : World} {A : Around} {E : Value → Shared → Prop} {s : Shared} {h₀ : Heap} {L : Addr} {m : Str → Option Value} {env : Env}

/-- a comprehension's source, whatever walks it -/
def SrcG (prog : Program) (w : World) (A : Around) (h₀ : Heap) (L : Addr) (m : Str → Option Value) (env : Env) (ct elt : Expr) (x : Str) (scope : Scope) (cl : List (Str × Addr)) (Fin : Shared → List Value → List (Addr × Obj) → Prop) (E : Value → Shared → Prop) (xv : Value) (s₁ : Shared) : Prop :=
  wpAny (model prog w) A (pyIter xv) (fun it s₂ => ∃ I fp n P St S news, it = .ref I ∧ Walks prog w A I fp [I] n P St ∧ n ≤ sizeLine ∧ (∀ i h, St i h → ∃ o, h.get? I = some o) ∧
    (∀ i h h' o nw, St i h → h.get? I = some o → h'.get? I = some o → (∀ b o, h₀.get? b = some o → h'.get? b = some o) → News h₀ L h' nw → S nw → St i h') ∧ St 0 s₂.heap ∧ (∀ b ∈ fp, b < s₂.heap.objs.size) ∧
    Fr h₀ L s₂.heap m ∧ News h₀ L s₂.heap news ∧ L ≠ I ∧ h₀.get? I = none ∧ (∀ p ∈ news, p.1 ≠ I) ∧ S news ∧ CompRestT prog w A h₀ L m env ct elt x scope cl s₂ S P (Fin s₂) n 0 [] news) E s₁

theorem comp_expr {ct elt iter : Expr} {x : Str} {px : Pos} {scope : Scope} {cl : List (Str × Addr)} {pos : Pos} {Q : Value → Shared → Prop} (_F₀ : Fr h₀ L s.heap m)
    (hclos : closureFor scope env = pure cl) (hcell : ∀ y ∈ scope.names, y.2 ≠ .cell) (hkind : scope.kind = .function)
    (hnames : ∀ y ∈ scope.names, y.2 = .local → scope.names.lookup y.1 = some .local) (hx : scope.names.lookup x = some .local)
    (h : wpAny (model prog w) A (eval iter env) (SrcG prog w A h₀ L m env ct elt x scope cl (fun s₂ => FinE h₀ L m s₂ Q) E) E s)
    (hs : ∀ x, foldedSetIterable iter env x = pure x := by intro _; rfl) :
    wpAny (model prog w) A (eval (.ListComp elt [⟨.Name x px, iter, [ct], 0⟩] scope pos) env) Q E s := by
  rw [eval_ListComp]
  refine wpAny_comprehension_free (use := none) rfl hs hclos hkind hnames (wpAny_mono h (fun xv s₁ h₁ => ?_) fun _ _ e => e)
  refine wpAny_mono h₁ (fun it s₂ h₂ => ?_) fun _ _ e => e
  obtain ⟨I, fp, n, P, St, S, news, rfl, W, hsz, hIo, hSt, hst, hfp, F, N, hIL, hI₀, off, hS, R⟩ := h₂
  refine block_T W hsz hIo hSt hcell hkind hx hst hfp F N hIL hI₀ off hS R ?_
  intro D C h tk m' ys news' F' N' o1 hn hC₀ hD₀ hCL hDL hCD offC fin
  refine ⟨m', hn, fun h'' hs'' => fin D h'' tk (F'.change hs'' hCL hC₀) (fun p hp => ?_) o1⟩
  refine ⟨hs''.extBut _ _ ?_ (N' p hp).1, (N' p hp).2⟩
  rcases List.mem_cons.mp hp with rfl | hp
  · exact Ne.symm hCD
  · exact offC p hp

theorem comp_assign {ct elt iter : Expr} {x y : Str} {px py : Pos} {scope : Scope} {cl : List (Str × Addr)} {pos spos : Pos} {Q : Flow → Shared → Prop} (_F₀ : Fr h₀ L s.heap m) (hLe : env.locals = L)
    (hsw : swapsWith (.ListComp elt [⟨.Name x px, iter, [ct], 0⟩] scope pos) (some (.Name y py)) spos.line env = pure true)
    (hclos : closureFor scope env = pure cl) (hcell : ∀ z ∈ scope.names, z.2 ≠ .cell) (hkind : scope.kind = .function)
    (hnames : ∀ z ∈ scope.names, z.2 = .local → scope.names.lookup z.1 = some .local) (hx : scope.names.lookup x = some .local)
    (hy : env.kindOf y = some .local) (hp : (env.scope.kind == .class || (env.scope.kind == .module && env.locals != env.globals)) = false)
    (h : wpAny (model prog w) A (eval iter env) (SrcG prog w A h₀ L m env ct elt x scope cl (fun s₂ => FinA h₀ L m s₂ y Q) E) E s)
    (hs : ∀ x, foldedSetIterable iter env x = pure x := by intro _; rfl) :
    wpAny (model prog w) A (exec (.Assign [.Name y py] (.ListComp elt [⟨.Name x px, iter, [ct], 0⟩] scope pos) spos) env) Q E s := by
  subst hLe
  rw [exec_Assign_Name_used _ _ _ _ hsw]
  refine wpAny_bind (wpAny_standAt (wpAny_bind ?_))
  show wpAny _ A (do let _ ← comprehension (.ListComp elt [⟨.Name x px, iter, [ct], 0⟩] scope pos) scope env _ (newList []) false (eval iter env) (some (assign (.Name y py) env))) _ _ s
  refine wpAny_bind (wpAny_mono (wpAny_comprehension_free (use := some (assign (.Name y py) env)) (Q := fun _ s' => Q .next s') rfl hs hclos hkind hnames
    (wpAny_mono h (fun xv s₁ h₁ => ?_) fun _ _ e => e)) (fun _ s' hq => wpAny_pure (wpAny_pure hq)) fun _ _ e => e)
  refine wpAny_mono h₁ (fun it s₂ h₂ => ?_) fun _ _ e => e
  obtain ⟨I, fp, n, P, St, S, news, rfl, W, hsz, hIo, hSt, hst, hfp, F, N, hIL, hI₀, off, hS, R⟩ := h₂
  refine block_T W hsz hIo hSt hcell hkind hx hst hfp F N hIL hI₀ off hS R ?_
  intro D C h' tk m' ys news' F' N' o1 hn hC₀ hD₀ hCL hDL hCD offC fin
  show wpAny _ A (assign (.Name y py) env (.ref D)) _ _ _
  refine wpAny_assign_Name (wpAny_storeName_local hy F'.ns (fun h₂ hn₂ hs₂ => ?_) hp)
  have hL₀ : h₀.get? env.locals = none := Heap.get?_none_of_le F'.above
  have F₂ : Fr h₀ env.locals h₂ (fun z => if z = y then some (.ref D) else m z) := ⟨hn₂, fun b o e => hs₂.extBut b o (fun q => by rw [q, hL₀] at e; cases e) (F'.keep b o e), F'.above⟩
  refine ⟨m', hn.sameBut hs₂ hCL, fun h'' hs'' => fin D h'' _ (F₂.change hs'' hCL hC₀) (fun p hp => ?_) o1⟩
  have z : h₂.get? p.1 = some p.2 := hs₂.extBut _ _ (N' p hp).2.1 (N' p hp).1
  refine ⟨hs''.extBut _ _ ?_ z, (N' p hp).2⟩
  rcases List.mem_cons.mp hp with rfl | hp
  · exact Ne.symm hCD
  · exact offC p hp

/-- a comprehension's turns by an invariant -/
theorem turns_inv {ct elt : Expr} {x : Str} {scope : Scope} {cl : List (Str × Addr)} {S : List (Addr × Obj) → Prop} {P : Nat → Value → Prop} {Fin : List Value → List (Addr × Obj) → Prop} {n : Nat} (J : Nat → List Value → List (Addr × Obj) → Prop)
    (turn : ∀ i ys news, i < n → J i ys news → ∀ v I oI C oC D m₂ h tk, P i v → NsObj oC m₂ → m₂ x = some v → Fr h₀ L h m → News h₀ L h ((I, oI) :: (C, oC) :: (D, lst ys) :: news) → Off3 I C D news → ((@Ne Nat I C) ∧ (@Ne Nat I D) ∧ (@Ne Nat C D)) →
      wpAny (model prog w) A (isTrue ct (compEnvC scope cl C env) (eval ct (compEnvC scope cl C env))) (fun ok s' => if ok = true then
        wpAny (model prog w) A (eval elt (compEnvC scope cl C env)) (CompEnd h₀ L m { s with heap := h, toks := tk } I oI C oC D (lst ys) S (fun y news' => J (i + 1) (ys ++ [y]) news')) (fun _ _ => False) s'
        else CompEnd h₀ L m { s with heap := h, toks := tk } I oI C oC D (lst ys) S (fun _ news' => J (i + 1) ys news') Value.none s') (fun _ _ => False) { s with heap := h, toks := tk })
    (fin : ∀ ys news, J n ys news → Fin ys news) : ∀ k i ys news, i + k = n → J i ys news → CompRestT prog w A h₀ L m env ct elt x scope cl s S P Fin k i ys news := by
  intro k
  induction k with
  | zero => intro i ys news e hJ; exact .zero (fin ys news (by rw [← e]; exact hJ))
  | succ k ih =>
    intro i ys news e hJ
    refine .succ fun v I oI C oC D m₂ h tk E' hP hO hm F N off ne => ?_
    refine wpAny_mono (turn i ys news (by omega) hJ v I oI C oC D m₂ h tk hP hO hm F N off ne) (fun ok s' q => ?_) fun _ _ z => z.elim
    cases ok with
    | true =>
      simp only [if_true] at q ⊢
      refine wpAny_mono q (fun y s'' q => ?_) fun _ _ z => z.elim
      obtain ⟨h', tk', news', e', F', N', o', S', r⟩ := q
      exact ⟨h', tk', news', e', F', N', o', S', ih (i + 1) _ _ (by omega) r⟩
    | false =>
      simp only [Bool.false_eq_true, if_false] at q ⊢
      obtain ⟨h', tk', news', e', F', N', o', S', r⟩ := q
      exact ⟨h', tk', news', e', F', N', o', S', ih (i + 1) _ _ (by omega) r⟩

theorem src_list {ct elt : Expr} {x : Str} {scope : Scope} {cl : List (Str × Addr)} {Fin : Shared → List Value → List (Addr × Obj) → Prop} {l : Addr} {vs : List Value} {nn : Nat} {news : List (Addr × Obj)} (J : Nat → List Value → List (Addr × Obj) → Prop)
    (hh : A.handled = none) (F : Fr h₀ L s.heap m) (N : News h₀ L s.heap news) (hm : (l, listOf vs.toArray nn) ∈ news) (hsz : vs.length ≤ 1000) (hJ : Hold (J 0 [] news))
    (turn : Hold (∀ g, ∀ i ys news, i < vs.length → J i ys news → ∀ v I oI C oC D m₂ h tk, vs[i]? = some v → NsObj oC m₂ → m₂ x = some v → Fr h₀ L h m → News h₀ L h ((I, oI) :: (C, oC) :: (D, lst ys) :: news) → Off3 I C D news → ((@Ne Nat I C) ∧ (@Ne Nat I D) ∧ (@Ne Nat C D)) →
      wpAny (model prog w) A (isTrue ct (compEnvC scope cl C env) (eval ct (compEnvC scope cl C env))) (fun ok s' => if ok = true then
        wpAny (model prog w) A (eval elt (compEnvC scope cl C env)) (CompEnd h₀ L m { { s with heap := g } with heap := h, toks := tk } I oI C oC D (lst ys) (fun nx => (l, listOf vs.toArray nn) ∈ nx) (fun y news' => J (i + 1) (ys ++ [y]) news')) (fun _ _ => False) s'
        else CompEnd h₀ L m { { s with heap := g } with heap := h, toks := tk } I oI C oC D (lst ys) (fun nx => (l, listOf vs.toArray nn) ∈ nx) (fun _ news' => J (i + 1) ys news') Value.none s') (fun _ _ => False) { { s with heap := g } with heap := h, toks := tk }))
    (fin : Hold (∀ g, ∀ ys news, J vs.length ys news → Fin { s with heap := g } ys news)) : SrcG prog w A h₀ L m env ct elt x scope cl Fin E (.ref l) s := by
  have hol : s.heap.get? l = some (listOf vs.toArray nn) := (N _ hm).1
  have hls : s.heap.IsList l vs.toArray := ⟨_, hol, rfl, nn, rfl⟩
  have hlt : l < s.heap.objs.size := Heap.lt_size hol
  unfold SrcG
  refine wpAny_pyIter_list hls ?_
  have up : ∀ b o, s.heap.get? b = some o → (s.heap.push { cls := .type "list_iterator", data := .fields #[.ref l, .int 0 0] }).get? b = some o := fun b o e => Heap.get?_push_of_some _ e
  have W := Walks.list (prog := prog) (w := w) hh s.heap.objs.size l (Nat.ne_of_lt hlt) vs.toArray
  have hlen : vs.toArray.size = vs.length := by simp
  rw [hlen] at W
  refine ⟨_, _, vs.length, _, _, (fun nx => (l, listOf vs.toArray nn) ∈ nx), news, rfl, W, by rw [sizeLine_eq]; omega, (fun i h st => by obtain ⟨o, e, _⟩ := st.1; exact ⟨o, e⟩), ?_, ⟨⟨_, Heap.get?_push_size _ rfl, rfl, rfl⟩, hls.push _⟩, ?_,
    F.keeps up, N.grown up, Nat.ne_of_lt F.ns.lt, next_is_new F, (fun p hp => Nat.ne_of_lt (Heap.lt_size (N p hp).1)), hm, ?_⟩
  · intro i h h' o nw st e e' _ Nw hS
    refine ⟨?_, ⟨_, (Nw _ hS).1, rfl, nn, rfl⟩⟩
    obtain ⟨o', q, r⟩ := st.1
    rw [e] at q; cases q
    exact ⟨o, e', r⟩
  · intro b hb
    show b < (s.heap.push _).objs.size
    rw [Heap.size_push]
    rcases List.mem_cons.mp hb with rfl | hb
    · exact Nat.lt_succ_self _
    · rw [List.mem_singleton.mp hb]; exact Nat.lt_succ_of_lt hlt
  · exact turns_inv (n := vs.length) J (fun i ys news hi hj v I oI C oC D m₂ h tk hP => turn.out _ i ys news hi hj v I oI C oC D m₂ h tk (by simpa using hP)) (fin.out _) vs.length 0 [] news (Nat.zero_add _) hJ.out

theorem src_dict {K : Type} [DecidableEq K] {knd : KeyKind prog w K} {ct elt : Expr} {x : Str} {scope : Scope} {cl : List (Str × Addr)} {Fin : Shared → List Value → List (Addr × Obj) → Prop} {d : Addr} {od : Obj} {kvs : List (K × Value)} {news : List (Addr × Obj)} (J : Nat → List Value → List (Addr × Obj) → Prop)
    (hh : A.handled = none) (F : Fr h₀ L s.heap m) (N : News h₀ L s.heap news) (hm : (d, od) ∈ news) (hd : od.IsDictOf knd kvs) (lo : (d == sysModules) = false) (hsz : kvs.length ≤ 1000) (hJ : Hold (J 0 [] news))
    (turn : Hold (∀ g, ∀ i ys news, i < kvs.length → J i ys news → ∀ v I oI C oC D m₂ h tk, (∃ k x, kvs[i]? = some (k, x) ∧ knd.is k v = true) → NsObj oC m₂ → m₂ x = some v → Fr h₀ L h m → News h₀ L h ((I, oI) :: (C, oC) :: (D, lst ys) :: news) → Off3 I C D news → ((@Ne Nat I C) ∧ (@Ne Nat I D) ∧ (@Ne Nat C D)) →
      wpAny (model prog w) A (isTrue ct (compEnvC scope cl C env) (eval ct (compEnvC scope cl C env))) (fun ok s' => if ok = true then
        wpAny (model prog w) A (eval elt (compEnvC scope cl C env)) (CompEnd h₀ L m { { s with heap := g } with heap := h, toks := tk } I oI C oC D (lst ys) (fun nx => (d, od) ∈ nx) (fun y news' => J (i + 1) (ys ++ [y]) news')) (fun _ _ => False) s'
        else CompEnd h₀ L m { { s with heap := g } with heap := h, toks := tk } I oI C oC D (lst ys) (fun nx => (d, od) ∈ nx) (fun _ news' => J (i + 1) ys news') Value.none s') (fun _ _ => False) { { s with heap := g } with heap := h, toks := tk }))
    (fin : Hold (∀ g, ∀ ys news, J kvs.length ys news → Fin { s with heap := g } ys news)) : SrcG prog w A h₀ L m env ct elt x scope cl Fin E (.ref d) s := by
  obtain ⟨ep, hat⟩ := (kda_dict N hm hd).dictAt
  have hat' := hat
  obtain ⟨o₁, es₁, hg₁, r₁⟩ := hat'
  have hlt : d < s.heap.objs.size := hat.lt_size
  unfold SrcG
  refine wpAny_pyIter_dict lo hat ?_
  have up : ∀ b o, s.heap.get? b = some o → (s.heap.push { cls := .type "dict_keyiterator", data := .fields #[.ref d, .int 0 0, .int kvs.length 0, .int ep 0] }).get? b = some o := fun b o e => Heap.get?_push_of_some _ e
  refine ⟨_, _, kvs.length, _, _, (fun nx => (d, od) ∈ nx), news, rfl, Walks.dictKeys (knd := knd) hh s.heap.objs.size d (Nat.ne_of_lt hlt) kvs ep, by rw [sizeLine_eq]; omega, (fun i h st => by obtain ⟨o, e, _⟩ := st.1; exact ⟨o, e⟩), ?_, ⟨⟨_, Heap.get?_push_size _ rfl, rfl, rfl⟩, hat.push _⟩, ?_,
    F.keeps up, N.grown up, Nat.ne_of_lt F.ns.lt, next_is_new F, (fun p hp => Nat.ne_of_lt (Heap.lt_size (N p hp).1)), hm, ?_⟩
  · intro i h h' o nw st e e' _ Nw hS
    refine ⟨?_, ?_⟩
    · obtain ⟨o', q, r⟩ := st.1
      rw [e] at q; cases q
      exact ⟨o, e', r⟩
    · have e2 : o₁ = od := by
        have := (N _ hm).1; rw [hg₁] at this; exact Option.some.inj this
      exact ⟨od, es₁, (Nw _ hS).1, e2 ▸ r₁⟩
  · intro b hb
    show b < (s.heap.push _).objs.size
    rw [Heap.size_push]
    rcases List.mem_cons.mp hb with rfl | hb
    · exact Nat.lt_succ_self _
    · rw [List.mem_singleton.mp hb]; exact Nat.lt_succ_of_lt hlt
  · exact turns_inv (n := kvs.length) J (turn.out _) (fin.out _) kvs.length 0 [] news (Nat.zero_add _) hJ.out

theorem src_range {ct elt : Expr} {x : Str} {scope : Scope} {cl : List (Str × Addr)} {Fin : Shared → List Value → List (Addr × Obj) → Prop} {r : Addr} {a b : Int} {t u v : Tok} {n : Nat} {news : List (Addr × Obj)} (J : Nat → List Value → List (Addr × Obj) → Prop)
    (hh : A.handled = none) (F : Fr h₀ L s.heap m) (N : News h₀ L s.heap news) (hr : IsRange s.heap r a b 1 t u v) (hsm : Builtin.Range.small a b 1 = true) (hn : Builtin.Range.rangeSize a b 1 = ((n : Nat) : Int)) (hsz : n ≤ 1000) (hJ : Hold (J 0 [] news))
    (turn : Hold (∀ g, ∀ i ys news, i < n → J i ys news → ∀ v I oI C oC D m₂ h tk, (∃ t, v = Value.int (a + (i : Int)) t) → NsObj oC m₂ → m₂ x = some v → Fr h₀ L h m → News h₀ L h ((I, oI) :: (C, oC) :: (D, lst ys) :: news) → Off3 I C D news → ((@Ne Nat I C) ∧ (@Ne Nat I D) ∧ (@Ne Nat C D)) →
      wpAny (model prog w) A (isTrue ct (compEnvC scope cl C env) (eval ct (compEnvC scope cl C env))) (fun ok s' => if ok = true then
        wpAny (model prog w) A (eval elt (compEnvC scope cl C env)) (CompEnd h₀ L m { { s with heap := g } with heap := h, toks := tk } I oI C oC D (lst ys) (fun _ => True) (fun y news' => J (i + 1) (ys ++ [y]) news')) (fun _ _ => False) s'
        else CompEnd h₀ L m { { s with heap := g } with heap := h, toks := tk } I oI C oC D (lst ys) (fun _ => True) (fun _ news' => J (i + 1) ys news') Value.none s') (fun _ _ => False) { { s with heap := g } with heap := h, toks := tk }))
    (fin : Hold (∀ g, ∀ ys news, J n ys news → Fin { s with heap := g } ys news)) : SrcG prog w A h₀ L m env ct elt x scope cl Fin E (.ref r) s := by
  unfold SrcG
  refine wpAny_pyIter_range hr hsm ?_
  refine ⟨_, _, n, _, _, (fun _ => True), news, rfl, range_walks hh a n, by rw [sizeLine_eq]; omega, (fun i h st => ⟨_, st⟩), range_st, (by show IsRangeIter _ _ _ _ _; rw [hn]; simpa using Heap.get?_push_size _ rfl), ?_,
    (F.keeps fun _ _ e => Heap.get?_push_of_some _ e), (N.grown fun _ _ e => Heap.get?_push_of_some _ e), (Nat.ne_of_lt F.ns.lt), (next_is_new F), (fun p hp => Nat.ne_of_lt (Heap.lt_size (N p hp).1)), trivial, ?_⟩
  · intro b hb
    rw [List.mem_singleton.mp hb]
    show s.heap.objs.size < (s.heap.push _).objs.size
    rw [Heap.size_push]; exact Nat.lt_succ_self _
  · exact turns_inv (n := n) J (turn.out _) (fin.out _) n 0 [] news (Nat.zero_add _) hJ.out

/-- the ledger stands: a turn of a comprehension that changes nothing -/
def RoEnd (h₀ : Heap) (L : Addr) (m : Str → Option Value) (s₁ : Shared) (led : List (Addr × Obj)) (J : Value → Prop) (y : Value) (s₂ : Shared) : Prop :=
  ∃ h' tk, s₂ = { s₁ with heap := h', toks := tk } ∧ Fr h₀ L h' m ∧ News h₀ L h' led ∧ J y
theorem RoEnd.toComp {I C D : Addr} {oI oC oD : Obj} {news : List (Addr × Obj)} {s₁ s₂ : Shared} {J : Value → Prop} {S : List (Addr × Obj) → Prop} {R : Value → List (Addr × Obj) → Prop} {y : Value} (q : RoEnd h₀ L m s₁ ((I, oI) :: (C, oC) :: (D, oD) :: news) J y s₂) (off : Off3 I C D news) (hS : S news) (hR : J y → R y news) :
    CompEnd h₀ L m s₁ I oI C oC D oD S R y s₂ := let ⟨h', tk, e, F, N, j⟩ := q; ⟨h', tk, news, e, F, N, off, hS, hR j⟩

theorem src_list_ro {ct elt : Expr} {x : Str} {scope : Scope} {cl : List (Str × Addr)} {Fin : Shared → List Value → List (Addr × Obj) → Prop} {news : List (Addr × Obj)} {l : Addr} {vs : List Value} {nn : Nat} (J : Nat → List Value → Prop)
    (hh : A.handled = none) (F : Fr h₀ L s.heap m) (N : News h₀ L s.heap news) (hm : (l, listOf vs.toArray nn) ∈ news) (hsz : vs.length ≤ 1000) (hJ : Hold (J 0 []))
    (turn : Hold (∀ g, ∀ i ys, i < vs.length → J i ys → ∀ v I oI C oC D m₂ h tk, vs[i]? = some v → NsObj oC m₂ → m₂ x = some v → Fr h₀ L h m → News h₀ L h ((I, oI) :: (C, oC) :: (D, lst ys) :: news) → Off3 I C D news → ((@Ne Nat I C) ∧ (@Ne Nat I D) ∧ (@Ne Nat C D)) →
      wpAny (model prog w) A (isTrue ct (compEnvC scope cl C env) (eval ct (compEnvC scope cl C env))) (fun ok s' => if ok = true then
        wpAny (model prog w) A (eval elt (compEnvC scope cl C env)) (RoEnd h₀ L m { { s with heap := g } with heap := h, toks := tk } ((I, oI) :: (C, oC) :: (D, lst ys) :: news) (fun y => J (i + 1) (ys ++ [y]))) (fun _ _ => False) s'
        else RoEnd h₀ L m { { s with heap := g } with heap := h, toks := tk } ((I, oI) :: (C, oC) :: (D, lst ys) :: news) (fun _ => J (i + 1) ys) Value.none s') (fun _ _ => False) { { s with heap := g } with heap := h, toks := tk }))
    (fin : Hold (∀ g, ∀ ys, J vs.length ys → Fin { s with heap := g } ys news)) : SrcG prog w A h₀ L m env ct elt x scope cl Fin E (.ref l) s := by
  refine src_list (fun i ys nx => nx = news ∧ J i ys) hh F N hm hsz ⟨⟨rfl, hJ.out⟩⟩ ⟨?_⟩ ⟨fun g ys nx h => by obtain ⟨rfl, h⟩ := h; exact fin.out g ys h⟩
  rintro g i ys nx hi ⟨rfl, hj⟩ v I oI C oC D m₂ h tk hP hO hmx F N off ne
  refine wpAny_mono (turn.out g i ys hi hj v I oI C oC D m₂ h tk hP hO hmx F N off ne) (fun ok s' q => ?_) fun _ _ z => z
  cases ok with
  | true =>
    simp only [if_true] at q ⊢
    exact wpAny_mono q (fun y s'' q => q.toComp off (hm) fun j => ⟨rfl, j⟩) fun _ _ z => z
  | false =>
    simp only [Bool.false_eq_true, if_false] at q ⊢
    exact q.toComp off (hm) fun j => ⟨rfl, j⟩
theorem src_dict_ro {K : Type} [DecidableEq K] {knd : KeyKind prog w K} {ct elt : Expr} {x : Str} {scope : Scope} {cl : List (Str × Addr)} {Fin : Shared → List Value → List (Addr × Obj) → Prop} {news : List (Addr × Obj)} {d : Addr} {od : Obj} {kvs : List (K × Value)} (J : Nat → List Value → Prop)
    (hh : A.handled = none) (F : Fr h₀ L s.heap m) (N : News h₀ L s.heap news) (hm : (d, od) ∈ news) (hd : od.IsDictOf knd kvs) (lo : (d == sysModules) = false) (hsz : kvs.length ≤ 1000) (hJ : Hold (J 0 []))
    (turn : Hold (∀ g, ∀ i ys, i < kvs.length → J i ys → ∀ v I oI C oC D m₂ h tk, (∃ k x, kvs[i]? = some (k, x) ∧ knd.is k v = true) → NsObj oC m₂ → m₂ x = some v → Fr h₀ L h m → News h₀ L h ((I, oI) :: (C, oC) :: (D, lst ys) :: news) → Off3 I C D news → ((@Ne Nat I C) ∧ (@Ne Nat I D) ∧ (@Ne Nat C D)) →
      wpAny (model prog w) A (isTrue ct (compEnvC scope cl C env) (eval ct (compEnvC scope cl C env))) (fun ok s' => if ok = true then
        wpAny (model prog w) A (eval elt (compEnvC scope cl C env)) (RoEnd h₀ L m { { s with heap := g } with heap := h, toks := tk } ((I, oI) :: (C, oC) :: (D, lst ys) :: news) (fun y => J (i + 1) (ys ++ [y]))) (fun _ _ => False) s'
        else RoEnd h₀ L m { { s with heap := g } with heap := h, toks := tk } ((I, oI) :: (C, oC) :: (D, lst ys) :: news) (fun _ => J (i + 1) ys) Value.none s') (fun _ _ => False) { { s with heap := g } with heap := h, toks := tk }))
    (fin : Hold (∀ g, ∀ ys, J kvs.length ys → Fin { s with heap := g } ys news)) : SrcG prog w A h₀ L m env ct elt x scope cl Fin E (.ref d) s := by
  refine src_dict (fun i ys nx => nx = news ∧ J i ys) hh F N hm hd lo hsz ⟨⟨rfl, hJ.out⟩⟩ ⟨?_⟩ ⟨fun g ys nx h => by obtain ⟨rfl, h⟩ := h; exact fin.out g ys h⟩
  rintro g i ys nx hi ⟨rfl, hj⟩ v I oI C oC D m₂ h tk hP hO hmx F N off ne
  refine wpAny_mono (turn.out g i ys hi hj v I oI C oC D m₂ h tk hP hO hmx F N off ne) (fun ok s' q => ?_) fun _ _ z => z
  cases ok with
  | true =>
    simp only [if_true] at q ⊢
    exact wpAny_mono q (fun y s'' q => q.toComp off (hm) fun j => ⟨rfl, j⟩) fun _ _ z => z
  | false =>
    simp only [Bool.false_eq_true, if_false] at q ⊢
    exact q.toComp off (hm) fun j => ⟨rfl, j⟩
theorem src_range_ro {ct elt : Expr} {x : Str} {scope : Scope} {cl : List (Str × Addr)} {Fin : Shared → List Value → List (Addr × Obj) → Prop} {news : List (Addr × Obj)} {r : Addr} {a b : Int} {t u v : Tok} {n : Nat} (J : Nat → List Value → Prop)
    (hh : A.handled = none) (F : Fr h₀ L s.heap m) (N : News h₀ L s.heap news) (hr : IsRange s.heap r a b 1 t u v) (hsm : Builtin.Range.small a b 1 = true) (hn : Builtin.Range.rangeSize a b 1 = ((n : Nat) : Int)) (hsz : n ≤ 1000) (hJ : Hold (J 0 []))
    (turn : Hold (∀ g, ∀ i ys, i < n → J i ys → ∀ v I oI C oC D m₂ h tk, (∃ t, v = Value.int (a + (i : Int)) t) → NsObj oC m₂ → m₂ x = some v → Fr h₀ L h m → News h₀ L h ((I, oI) :: (C, oC) :: (D, lst ys) :: news) → Off3 I C D news → ((@Ne Nat I C) ∧ (@Ne Nat I D) ∧ (@Ne Nat C D)) →
      wpAny (model prog w) A (isTrue ct (compEnvC scope cl C env) (eval ct (compEnvC scope cl C env))) (fun ok s' => if ok = true then
        wpAny (model prog w) A (eval elt (compEnvC scope cl C env)) (RoEnd h₀ L m { { s with heap := g } with heap := h, toks := tk } ((I, oI) :: (C, oC) :: (D, lst ys) :: news) (fun y => J (i + 1) (ys ++ [y]))) (fun _ _ => False) s'
        else RoEnd h₀ L m { { s with heap := g } with heap := h, toks := tk } ((I, oI) :: (C, oC) :: (D, lst ys) :: news) (fun _ => J (i + 1) ys) Value.none s') (fun _ _ => False) { { s with heap := g } with heap := h, toks := tk }))
    (fin : Hold (∀ g, ∀ ys, J n ys → Fin { s with heap := g } ys news)) : SrcG prog w A h₀ L m env ct elt x scope cl Fin E (.ref r) s := by
  refine src_range (fun i ys nx => nx = news ∧ J i ys) hh F N hr hsm hn hsz ⟨⟨rfl, hJ.out⟩⟩ ⟨?_⟩ ⟨fun g ys nx h => by obtain ⟨rfl, h⟩ := h; exact fin.out g ys h⟩
  rintro g i ys nx hi ⟨rfl, hj⟩ v I oI C oC D m₂ h tk hP hO hmx F N off ne
  refine wpAny_mono (turn.out g i ys hi hj v I oI C oC D m₂ h tk hP hO hmx F N off ne) (fun ok s' q => ?_) fun _ _ z => z
  cases ok with
  | true =>
    simp only [if_true] at q ⊢
    exact wpAny_mono q (fun y s'' q => q.toComp off (trivial) fun j => ⟨rfl, j⟩) fun _ _ z => z
  | false =>
    simp only [Bool.false_eq_true, if_false] at q ⊢
    exact q.toComp off (trivial) fun j => ⟨rfl, j⟩
end
end

section
example : True := by
  w_top off
  k_with_none
  k_with "!c1" => first | assumption | exact And.right (by k_extra "!c2") | fail
  k_with "!c2" => first | assumption | exact And.right (by k_extra "!c3") | fail
  k_with "!c3" => first | assumption | exact And.right (by k_extra "!c4") | fail
  k_with "!c4" => first | assumption | exact And.right (by k_extra "!c5") | fail
  k_with "!c5" => first | assumption | exact And.right (by k_extra "!c6") | fail
  k_with "!c6" => first | assumption | exact And.right (by k_extra "!c7") | fail
  k_with "!c7" => first | assumption | exact And.right (by k_extra "!c8") | fail
  k_with "!c8" => assumption
  k_with "!lt9" => with_reducible first | exact And.left (by k_extra "!c1") | exact And.right (by k_extra "!c1") | fail
  k_with "!omega" => with_reducible first | exact lt_dp (by assumption) (by with_unfolding_all exact rfl) | exact lt_un (by assumption) (by with_unfolding_all exact rfl) | assumption | exact Ne.symm (by assumption) | exact Nat.ne_of_lt (by assumption) | exact Nat.ne_of_gt (by assumption) | exact le_big (by assumption) (by with_unfolding_all exact rfl) | exact le_big2 (by assumption) (by with_unfolding_all exact rfl) | exact lt_big (by assumption) (by with_unfolding_all exact rfl) | exact Nat.le_of_ble_eq_true (by with_unfolding_all exact rfl) | exact Nat.ne_of_gt (lt_s (by assumption)) | exact Nat.ne_of_gt (lt_s (lt_s (by assumption))) | exact Nat.ne_of_gt (lt_s (lt_s (lt_s (by assumption)))) | exact Nat.ne_of_lt (by k_extra "!lt9") | exact Nat.ne_of_gt (by k_extra "!lt9") | (refine Nat.lt_of_lt_of_le ?_ (Nat.le_refl _); k_extra "!lt9") | fail
  k_with "!call builtin:len" => (k_here; (with_reducible show wpAny _ _ (call (Value.builtin "len") [Value.ref _]) _ _ _); k_dflt (refine' L_len ?N ?m ?z ?_; (case N => k_asm); (case m => k_mem); (case z => omega); k_whole))
  k_with "!item" => first | (k_here; (with_reducible show wpAny _ _ (subscriptTail _ _ (Value.ref _) (Value.int _ _)) _ _ _); k_dflt (refine' kim_list ?N ?m ?c ?d ?z ?f ?x ?_; (case N => k_asm); (case m => k_mem); (case c => rfl); (case d => rfl); (case z => omega); (case f => omega); (case x => (try simp only [Int.toNat_natCast]); first | assumption | rfl | exact List.getElem?_eq_getElem (by omega)); k_whole)) | (k_here; (with_reducible show wpAny _ _ (subscriptTail _ _ (Value.ref _) (Value.int _ _)) _ _ _); k_dflt (refine' kda_item (knd := PySem.intKind _ _) ?N ?m ?d (intKind_is _ _ _ _) ?v ?_; (case N => k_asm); (case d => assumption); (case m => k_mem); (case v => assumption); k_whole))
  k_with "!subscriptTail" => k_extra "!item"
  k_with "!subscriptTail Name Constant ref int" => k_extra "!item"
  k_with "!subscriptTail Name Name ref int" => k_extra "!item"
  k_with "!k_all" => first | exact ne_of_allLt (by assumption) | exact ne_of_allLt (And.right (by assumption)) | exact ne_of_allLt (And.right (And.right (by assumption)))
  k_with "!sub" => first | exact fun _ h => h | (with_reducible assumption) | exact sub_app (by assumption) | exact sub_app (fun _ h => h) | exact (fun _ h => List.mem_append_right _ h) | (refine sub_cc ?_; k_extra "!sub") | (refine sub_tl ?_; k_extra "!sub")
  k_with "!k_handed" => with_reducible assumption
  k_with "!k_all" => first | exact ne_of_allNe (by assumption) | exact ne_of_allNe (And.right (by assumption)) | exact ne_of_allNe (And.right (And.right (by assumption)))
  k_with "!k_all" => first | exact ne_of_lts2 (by assumption) | (with_reducible assumption)
  k_with "!k_mem" => assumption
  k_with "!revslice" => (k_here; (with_reducible show wpAny _ _ (subscriptTail _ (PySem.Expr.Slice none none (some _) _) (Value.ref _) (Value.ref _)) _ _ _); k_dflt (refine' krv_ints ?F ?N ?l ?k ?i ?_ ?s ?t ?z; (case F => k_asm); (case N => k_asm); (case l => exact L_isList (by k_asm) (by k_mem)); (case k => exact IsPart.int _ _); (case i => assumption); (case s => with_unfolding_all rfl); (case t => (intro _; with_unfolding_all rfl)); (case z => (rw [List.size_toArray, sizeLine_eq]; omega))); intro zqD zqws zqh zqF zqN zql1 zqhI zqhC; (have zqhW := IntsAre.length zqhI); (replace zql1 := allLt_of zql1); (try simp only [AllLt, and_true] at zql1))
  k_with "!subscriptTail Name Slice ref ref" => k_extra "!revslice"
  k_with "!compareOp In int ref" => (k_here; k_dflt (refine' in_list_ints ?hl ?hi ?_; (case hl => exact L_isList (by k_asm) (by k_mem)); (case hi => assumption); k_whole))
  k_with "!exec Assign cons ListComp" => (k_here; (rename Fr _ _ _ _ => zqlF9); k_dflt (refine comp_assign zqlF9 (by rfl) (by with_unfolding_all rfl) (by with_unfolding_all rfl) (by decide) (by rfl) (by decide) (by rfl) (by rfl) (by rfl) ?_))
  trivial

theorem enterC {w : World} {f : Addr} {vs : List Value} {n : Nat} {FP : List (Addr × Obj)} {Post : Value → Heap → Prop} {h : Heap}
    {name qual : Str} {params : Arguments} {body : List Stmt} {scope : Scope} {dV kV doc pm cdv ct oc : Value} {an od : Option Addr} {osl : Array (Option Value)} {binds : List (Str × Value)}
    (ho : (hd.heap_1 w.params).lookup f = some ⟨oc, od, .func (fnOf name qual params body scope dV kV doc pm an cdv ct), osl⟩) (hcd : codeIn (hd.heap_1 w.params) cdv qual = true)
    (hbind : ∀ s, BindsTo s (fnOf name qual params body scope dV kV doc pm an cdv ct) ⟨vs, []⟩ binds) (hkind : (binds.all fun y => scope.names.lookup y.1 == some .local || scope.names.lookup y.1 == some .cell) = true)
    (hnd : ((cellsFrom 0 scope.names []).map (·.1)).Nodup) (hco : scope.isCoroutine = false) (hgen : scope.isGenerator = false) (hk : scope.kind = .function)
    (walk : ∀ (dp un : Nat) (gd : Option (List Code)) (env : Env) (outer : List Env) (A₀ : Around) (base g : Heap) (L' : Addr) (h₁ : Heap) (p : Program) (loose : List Str) (mean : ExcName → Option Value) (mg mb : Str → Option Value)
      (gs : Array GenState) (ds : Drawn) (tk : Nat) (os : OsState) (cells : List (Addr × Obj)),
      Below A₀ base (env :: outer) g → (hd.heap_1 w.params).In g → Top p loose mean mg mb g → Fr g L' h₁ (bindL (envOfC qual scope L' f cdv).kindOf binds fun _ => none) → News g L' h₁ (cells ++ FP) →
      CellsAre (bindC (envOfC qual scope L' f cdv).kindOf binds fun _ => none) (cellsFrom (L' + 1) scope.names []) cells → (∀ p ∈ FP, p.1 < L') → dp + n < 901 → un + 16 * n < 9016 →
      (∀ b o, b ∉ FP.map (·.1) → h.get? b = some o → g.get? b = some o) →
      wpAny (model Prg w) (AA (dp + 1) (un + 3) gd (envOfC qual scope L' f cdv) (env :: outer)) (execs body (envOfC qual scope L' f cdv))
        (fun fl s' => Ret g L' gs ds os Post (match fl with | .ret v => v | _ => .none) s') (fun _ _ => False) ⟨h₁, gs, ds, tk, os⟩) :
    Spec w (.ref f) vs n FP Post h := by
  intro dp un gd env outer A₀ base h₀ L m p loose mean mg mb gs ds tk os Q E B F X T hf hke N hdp hun hQ
  obtain ⟨FG, BG, st, _⟩ := groundX (R := fun _ _ => True) (s := ⟨h, gs, ds, tk, os⟩) (A := AA dp un gd env outer) B F N rfl hf hke
  refine wpAny_call (codeAny_call_function (fd := fnOf name qual params body scope dV kV doc pm an cdv ct) (by show dp < 1000; omega) (F.keep _ _ (X _ _ ho)) rfl hco hgen rfl (codeRec_of (X.keeps F.keep) hcd) (hbind _ _ _ _ _ ?_))
  refine wpAny_newFunctionEnv_cells hk (kindsX hkind _) fun env' he s' x => ?_
  subst he
  refine ⟨(T.nolimit.keeps F.keep).keeps x.toInCall.keep, codeAny_func ?_⟩
  obtain ⟨h₁, tk, rfl, _⟩ := x.done
  have hk₁ := x.toInCall.keep
  obtain ⟨cells, NC, Y⟩ := Cl.news (h₀ := h) (Nat.le_refl _) fun n c hm => ⟨x.cell n c (lookup_of_mem_nodup (cellsFrom_names scope.names 0 (h.objs.size + 1) [] [] rfl ▸ hnd) hm), x.above n c hm⟩
  refine wpAny_mono (walk dp un gd env outer (AA dp un gd env outer) base (hideAll h (FP.map (fun q : Addr × Obj => q.1))) h.objs.size h₁ p loose mean mg mb gs ds tk os cells BG (X.keeps st) (T.keeps st)
    ⟨x.toInCall.ns, fun b o e => hk₁ b o (of_hideAll _ e), Nat.le_of_eq (hideAll_size _ _)⟩ (fun p hp => ?_) Y (fun p hp => Heap.lt_size (N p hp).1) (by omega) (by omega) (fun b o hb e => hideAll_get _ e hb)) (fun fl s' hl => ?_) fun _ _ y => y.elim
  · rcases List.mem_append.mp hp with hp | hp
    · refine ⟨(NC p hp).1, (NC p hp).2.1, ?_⟩
      cases q : (hideAll h (FP.map (·.1))).get? p.1 with
      | none => rfl
      | some o => have := of_hideAll _ q; rw [(NC p hp).2.2] at this; cases this
    · exact ⟨hk₁ _ _ (N p hp).1, Nat.ne_of_lt (Heap.lt_size (N p hp).1), hideAll_none _ (List.mem_map_of_mem hp)⟩
  · obtain ⟨h', tk', m', rfl, F', P⟩ := hl
    refine hQ _ h' tk' ?_ (fun b o hb e => F'.keep b o (hideAll_get _ e hb)) P
    obtain ⟨oL, es, ep, hL, r⟩ := FG.ns
    exact ⟨⟨oL, es, ep, F'.keep L oL hL, r⟩, fun b o e => F'.keep b o (st b o e), F.above⟩

/-- an entry of the law's own table of rows -/
structure EntC where
  (e p : Addr)
  (vk : Value)
  (ee pe : Nat)
  (pv : List Value)
def EntC.led (E : EntC) : List (Addr × Obj) := [(E.e, listOf #[E.vk, .ref E.p] E.ee), (E.p, listOf E.pv.toArray E.pe)]
def kvsFrom : Nat → List EntC → List (Int × Value)
  | _, [] => []
  | k, E :: r => ((k : Int), .ref E.e) :: kvsFrom (k + 1) r
structure RowsC where
  (D : Addr)
  (od : Obj)
  (ents : List EntC)
def RowsC.led (ρ : RowsC) : List (Addr × Obj) := (ρ.D, ρ.od) :: ρ.ents.flatMap EntC.led
theorem RowsC.at {ρ : RowsC} {i : Nat} {E : EntC} (h : ρ.ents[i]? = some E) : ∀ q ∈ E.led, q ∈ ρ.led := fun _ hq => .tail _ (List.mem_flatMap.mpr ⟨E, List.mem_of_getElem? h, hq⟩)

theorem kvsFrom_len : ∀ (l : List EntC) (k : Nat), (kvsFrom k l).length = l.length
  | [], _ => rfl
  | _ :: r, k => by simp [kvsFrom, kvsFrom_len r]
theorem kvsFrom_get : ∀ (l : List EntC) (k i : Nat), (kvsFrom k l)[i]? = (l[i]?).map fun E => (((k + i : Nat) : Int), Value.ref E.e)
  | [], _, _ => by simp [kvsFrom]
  | E :: r, k, 0 => by simp [kvsFrom]
  | E :: r, k, i + 1 => by simp only [kvsFrom, List.getElem?_cons_succ, kvsFrom_get r (k + 1) i]; congr 1; funext E; rw [show k + 1 + i = k + (i + 1) from by omega]
theorem kvsFrom_value : ∀ (l : List EntC) (k i : Nat) {E : EntC}, l[i]? = some E → valueAt (kvsFrom k l) ((k + i : Nat) : Int) = some (.ref E.e)
  | [], _, _, _, h => by simp at h
  | E :: r, k, 0, E', h => by simp at h; subst h; simp [kvsFrom, valueAt]
  | E :: r, k, i + 1, E', h => by
    have ih := kvsFrom_value r (k + 1) i (by simpa using h)
    unfold valueAt at ih ⊢
    rw [kvsFrom, List.find?_cons_of_neg (by simp only [decide_eq_true_eq]; omega), show k + (i + 1) = k + 1 + i from by omega]
    exact ih
theorem kvsFrom_none : ∀ (l : List EntC) (k : Nat) (z : Int), z < k ∨ (k + l.length : Nat) ≤ z → valueAt (kvsFrom k l) z = none
  | [], _, _, _ => rfl
  | E :: r, k, z, h => by
    have ih := kvsFrom_none r (k + 1) z (by simp only [List.length_cons] at h; omega)
    unfold valueAt at ih ⊢
    rw [kvsFrom, List.find?_cons_of_neg (by simp only [decide_eq_true_eq, List.length_cons] at *; omega)]
    exact ih

def Shape.child (S : Shape) (i : Nat) : Bool := [Str.ofString "element", Str.ofString "text", Str.ofString "comment", Str.ofString "instruction"].any fun x => x == S.kind i
structure RowsOf (w : World) (S : Shape) (ρ : RowsC) : Prop where
  len : ρ.ents.length = S.n
  dict : ρ.od.IsDictOf (PySem.intKind Prg w) (kvsFrom 0 ρ.ents)
  lo : (ρ.D == sysModules) = false
  ent : ∀ i, i < S.n → ∃ E, ρ.ents[i]? = some E ∧ (∃ tk, E.vk = .str (S.kind i) tk) ∧ IntsAre E.pv (natInts (S.up (some i)).reverse)

theorem child_spec {w : World} {S : Shape} {ρ : RowsC} (hρ : RowsOf w S ρ) {i : Nat} {ti : Tok} (hi : i < S.n) {FP : List (Addr × Obj)} (hs : ∀ q ∈ ρ.led, q ∈ FP) {h : Heap} :
    Spec w (.ref 353) [.ref ρ.D, .int i ti] 3 FP (fun v h' => v = .bool (S.child i) ∧ ∀ q ∈ FP, h'.get? q.1 = some q.2) h := by
  refine enter (binds := [(Str.ofString "rows", .ref ρ.D), (Str.ofString "node", .int i ti)]) (by k_is) (by k_is) (fun s => BindsTo.of_eq rfl) (locs rfl) rfl rfl rfl (by decide) ?_
  intro dp un gd env outer A₀ base g L' h₁ p' loose mean mg mb gs ds tk os B X T F N lt hdp hun kp
  k_fold
  k_with_none
  k_with "!c1" => first | assumption | exact And.right (by k_extra "!c2") | fail
  k_with "!c2" => first | assumption | exact And.right (by k_extra "!c3") | fail
  k_with "!c3" => first | assumption | exact And.right (by k_extra "!c4") | fail
  k_with "!c4" => first | assumption | exact And.right (by k_extra "!c5") | fail
  k_with "!c5" => first | assumption | exact And.right (by k_extra "!c6") | fail
  k_with "!c6" => first | assumption | exact And.right (by k_extra "!c7") | fail
  k_with "!c7" => first | assumption | exact And.right (by k_extra "!c8") | fail
  k_with "!c8" => assumption
  k_with "!lt9" => with_reducible first | exact And.left (by k_extra "!c1") | exact And.right (by k_extra "!c1") | fail
  k_with "!omega" => with_reducible first | exact lt_dp (by assumption) (by with_unfolding_all exact rfl) | exact lt_un (by assumption) (by with_unfolding_all exact rfl) | assumption | exact Ne.symm (by assumption) | exact Nat.ne_of_lt (by assumption) | exact Nat.ne_of_gt (by assumption) | exact le_big (by assumption) (by with_unfolding_all exact rfl) | exact le_big2 (by assumption) (by with_unfolding_all exact rfl) | exact lt_big (by assumption) (by with_unfolding_all exact rfl) | exact Nat.le_of_ble_eq_true (by with_unfolding_all exact rfl) | exact Nat.ne_of_gt (lt_s (by assumption)) | exact Nat.ne_of_gt (lt_s (lt_s (by assumption))) | exact Nat.ne_of_gt (lt_s (lt_s (lt_s (by assumption)))) | exact Nat.ne_of_lt (by k_extra "!lt9") | exact Nat.ne_of_gt (by k_extra "!lt9") | (refine Nat.lt_of_lt_of_le ?_ (Nat.le_refl _); k_extra "!lt9") | fail
  k_with "!call builtin:len" => (k_here; (with_reducible show wpAny _ _ (call (Value.builtin "len") [Value.ref _]) _ _ _); k_dflt (refine' L_len ?N ?m ?z ?_; (case N => k_asm); (case m => k_mem); (case z => omega); k_whole))
  k_with "!item" => first | (k_here; (with_reducible show wpAny _ _ (subscriptTail _ _ (Value.ref _) (Value.int _ _)) _ _ _); k_dflt (refine' kim_list ?N ?m ?c ?d ?z ?f ?x ?_; (case N => k_asm); (case m => k_mem); (case c => rfl); (case d => rfl); (case z => omega); (case f => omega); (case x => (try simp only [Int.toNat_natCast]); first | assumption | rfl | exact List.getElem?_eq_getElem (by omega)); k_whole)) | (k_here; (with_reducible show wpAny _ _ (subscriptTail _ _ (Value.ref _) (Value.int _ _)) _ _ _); k_dflt (refine' kda_item (knd := PySem.intKind _ _) ?N ?m ?d (intKind_is _ _ _ _) ?v ?_; (case N => k_asm); (case d => assumption); (case m => k_mem); (case v => assumption); k_whole))
  k_with "!subscriptTail" => k_extra "!item"
  k_with "!subscriptTail Name Constant ref int" => k_extra "!item"
  k_with "!subscriptTail Name Name ref int" => k_extra "!item"
  k_with "!k_all" => first | exact ne_of_allLt (by assumption) | exact ne_of_allLt (And.right (by assumption)) | exact ne_of_allLt (And.right (And.right (by assumption)))
  k_with "!sub" => first | exact fun _ h => h | (with_reducible assumption) | exact sub_app (by assumption) | exact sub_app (fun _ h => h) | exact (fun _ h => List.mem_append_right _ h) | (refine sub_cc ?_; k_extra "!sub") | (refine sub_tl ?_; k_extra "!sub")
  k_with "!k_handed" => with_reducible assumption
  k_with "!k_all" => first | exact ne_of_allNe (by assumption) | exact ne_of_allNe (And.right (by assumption)) | exact ne_of_allNe (And.right (And.right (by assumption)))
  k_with "!k_all" => first | exact ne_of_lts2 (by assumption) | (with_reducible assumption)
  k_with "!k_mem" => assumption
  k_with "!revslice" => (k_here; (with_reducible show wpAny _ _ (subscriptTail _ (PySem.Expr.Slice none none (some _) _) (Value.ref _) (Value.ref _)) _ _ _); k_dflt (refine' krv_ints ?F ?N ?l ?k ?i ?_ ?s ?t ?z; (case F => k_asm); (case N => k_asm); (case l => exact L_isList (by k_asm) (by k_mem)); (case k => exact IsPart.int _ _); (case i => assumption); (case s => with_unfolding_all rfl); (case t => (intro _; with_unfolding_all rfl)); (case z => (rw [List.size_toArray, sizeLine_eq]; omega))); intro zqD zqws zqh zqF zqN zql1 zqhI zqhC; (have zqhW := IntsAre.length zqhI); (replace zql1 := allLt_of zql1); (try simp only [AllLt, and_true] at zql1))
  k_with "!subscriptTail Name Slice ref ref" => k_extra "!revslice"
  k_with "!compareOp In int ref" => (k_here; k_dflt (refine' in_list_ints ?hl ?hi ?_; (case hl => exact L_isList (by k_asm) (by k_mem)); (case hi => assumption); k_whole))
  k_with "!exec Assign cons ListComp" => (k_here; (rename Fr _ _ _ _ => zqlF9); k_dflt (refine comp_assign zqlF9 (by rfl) (by with_unfolding_all rfl) (by with_unfolding_all rfl) (by decide) (by rfl) (by decide) (by rfl) (by rfl) (by rfl) ?_))
  obtain ⟨E, hE, ⟨tkk, hk⟩, _⟩ := hρ.ent i hi
  have hD := hs _ (.head _)
  have hdict := hρ.dict
  have hv : valueAt (kvsFrom 0 ρ.ents) (i : Int) = some (.ref E.e) := by simpa using kvsFrom_value ρ.ents 0 i hE
  have hE1 := hs _ (RowsC.at hE _ (.head _))
  rw [hk] at hE1
  k_steps
  rename News _ _ _ _ => N'
  exact ⟨_, _, _, rfl, by assumption, rfl, led_of N' (by walk_at "sub")⟩

theorem first_of {b : Nat → Bool} {T : List Nat} {e : Nat} {r : List Nat} (h : (List.range T.length).filter (fun a => b (T.getD a 0)) = e :: r) : T.takeWhile (fun c => !b c) = T.take e := by
  have hm : e ∈ (List.range T.length).filter (fun a => b (T.getD a 0)) := by rw [h]; exact .head _
  obtain ⟨he, hb⟩ := List.mem_filter.mp hm
  have he' : e < T.length := List.mem_range.mp he
  have hp : ((List.range T.length).filter (fun a => b (T.getD a 0))).Pairwise (· < ·) := List.Pairwise.filter _ List.pairwise_lt_range
  rw [h] at hp
  have hb' : b T[e] = true := by simpa [List.getD_eq_getElem?_getD, he'] using hb
  refine takeWhile_stop (c := T[e]) (by simp) (fun x hx => ?_) (by simp [hb'])
  obtain ⟨j, hj, rfl⟩ := List.mem_iff_getElem.mp hx
  rw [List.length_take] at hj
  have hj' : j < T.length := by omega
  rw [List.getElem_take]
  cases hbj : b T[j] with
  | false => rfl
  | true =>
    have hjm : j ∈ (List.range T.length).filter (fun a => b (T.getD a 0)) := List.mem_filter.mpr ⟨List.mem_range.mpr hj', by simpa [List.getD_eq_getElem?_getD, hj'] using hbj⟩
    rw [h] at hjm
    rcases List.mem_cons.mp hjm with rfl | hjm
    · omega
    · have := (List.pairwise_cons.mp hp).1 j hjm; omega
theorem none_of {b : Nat → Bool} {T : List Nat} (h : (List.range T.length).filter (fun a => b (T.getD a 0)) = []) : T.takeWhile (fun c => !b c) = T := by
  refine takeWhile_all fun c hc => ?_
  obtain ⟨j, hj, rfl⟩ := List.mem_iff_getElem.mp hc
  have := List.filter_eq_nil_iff.mp h j (List.mem_range.mpr hj)
  simpa [List.getD_eq_getElem?_getD, hj] using this
theorem Shape.up_below {S : Shape} {τ : TreeC} (hS : S.Of τ) : ∀ f i, i < f → i < S.n → ∀ c ∈ S.up (S.par i), c < i := by
  intro f
  induction f with
  | zero => intro i h; omega
  | succ f ih =>
    intro i hf hi c hc
    cases hp : S.par i with
    | none => rw [hp] at hc; cases hc
    | some j =>
      have hb := hS.below i j hi hp
      rw [hp, Shape.up_some hS (by omega)] at hc
      rcases List.mem_cons.mp hc with rfl | hc
      · exact hb
      · exact Nat.lt_trans (ih j (by omega) (by omega) c hc) hb
theorem takeWhile_congr {p q : Nat → Bool} {l : List Nat} (h : ∀ c ∈ l, p c = q c) : l.takeWhile p = l.takeWhile q := by
  induction l with
  | nil => rfl
  | cons a r ih => rw [List.takeWhile_cons, List.takeWhile_cons, h a (.head _), ih fun c hc => h c (.tail _ hc)]
theorem Shape.upTo_cons {S : Shape} {τ : TreeC} (hS : S.Of τ) {i : Nat} (hi : i < S.n) (b : Nat → Bool) : S.upTo b i = i :: (S.up (S.par i)).takeWhile (fun c => !b c) := by
  rw [Shape.upTo, Shape.up_some hS hi, List.takeWhile_cons, if_pos (by simp)]
  congr 1
  refine takeWhile_congr fun c hc => ?_
  have := Shape.up_below hS (i + 1) i (Nat.lt_succ_self i) hi c hc
  simp [Nat.ne_of_lt this]
theorem ends_shift (b : Nat → Bool) (i : Nat) (T : List Nat) : ((List.range ((i :: T).length - 1)).map (· + 1)).filter (fun a => b ((i :: T).getD a 0)) = ((List.range T.length).filter (fun a => b (T.getD a 0))).map (· + 1) := by
  rw [List.filter_map]
  simp only [List.length_cons, Nat.add_sub_cancel]
  congr 1
theorem Shape.upTo_none {S : Shape} {τ : TreeC} (hS : S.Of τ) {i : Nat} (hi : i < S.n) (b : Nat → Bool)
    (h : ((List.range ((S.up (some i)).length - 1)).map (· + 1)).filter (fun a => b ((S.up (some i)).getD a 0)) = []) : S.upTo b i = S.up (some i) := by
  rw [Shape.upTo_cons hS hi, Shape.up_some hS hi]
  rw [Shape.up_some hS hi, ends_shift] at h
  rw [none_of (List.map_eq_nil_iff.mp h)]
theorem Shape.upTo_first {S : Shape} {τ : TreeC} (hS : S.Of τ) {i : Nat} (hi : i < S.n) (b : Nat → Bool) {e : Nat} {r : List Nat}
    (h : ((List.range ((S.up (some i)).length - 1)).map (· + 1)).filter (fun a => b ((S.up (some i)).getD a 0)) = e :: r) : S.upTo b i = (S.up (some i)).take e := by
  rw [Shape.upTo_cons hS hi, Shape.up_some hS hi]
  rw [Shape.up_some hS hi, ends_shift] at h
  obtain ⟨e', r', h1, rfl, -⟩ := List.map_eq_cons_iff.mp h
  rw [first_of h1, List.take_succ_cons]

theorem upwards_spec {w : World} {S : Shape} {τ : TreeC} (hS : S.Of τ) {ρ : RowsC} (hρ : RowsOf w S ρ) {i : Nat} {ti : Tok} (hi : i < S.n) {FP : List (Addr × Obj)} (hs : ∀ q ∈ ρ.led, q ∈ FP)
    {bl : Addr} {bs : List Value} {nb : Nat} {begins : List Nat} (hbl : (bl, listOf bs.toArray nb) ∈ FP) (hbs : IntsAre bs (natInts begins)) (hbz : bs.length < 500) {h : Heap} :
    Spec w (.ref 358) [.ref ρ.D, .int i ti, .ref bl] 3 FP (fun v h' => (∃ D o, v = .ref D ∧ h.get? D = none ∧ h'.get? D = some o ∧ ∃ us ed, o = listOf us.toArray ed ∧ IntsAre us (natInts (S.upTo (fun c => begins.contains c) i))) ∧ ∀ q ∈ FP, h'.get? q.1 = some q.2) h := by
  refine enterC (binds := [(Str.ofString "rows", .ref ρ.D), (Str.ofString "node", .int i ti), (Str.ofString "begins", .ref bl)]) (by k_is) (by k_is) (fun s => BindsTo.of_eq rfl) (by rfl) (by decide +kernel) rfl rfl rfl ?_
  intro dp un gd env outer A₀ base g L' h₁ p' loose mean mg mb gs ds tk os cells B X T F N Y lt hdp hun kp
  k_fold
  k_with_none
  k_with "!c1" => first | assumption | exact And.right (by k_extra "!c2") | fail
  k_with "!c2" => first | assumption | exact And.right (by k_extra "!c3") | fail
  k_with "!c3" => first | assumption | exact And.right (by k_extra "!c4") | fail
  k_with "!c4" => first | assumption | exact And.right (by k_extra "!c5") | fail
  k_with "!c5" => first | assumption | exact And.right (by k_extra "!c6") | fail
  k_with "!c6" => first | assumption | exact And.right (by k_extra "!c7") | fail
  k_with "!c7" => first | assumption | exact And.right (by k_extra "!c8") | fail
  k_with "!c8" => assumption
  k_with "!lt9" => with_reducible first | exact And.left (by k_extra "!c1") | exact And.right (by k_extra "!c1") | fail
  k_with "!omega" => with_reducible first | exact lt_dp (by assumption) (by with_unfolding_all exact rfl) | exact lt_un (by assumption) (by with_unfolding_all exact rfl) | assumption | exact Ne.symm (by assumption) | exact Nat.ne_of_lt (by assumption) | exact Nat.ne_of_gt (by assumption) | exact le_big (by assumption) (by with_unfolding_all exact rfl) | exact le_big2 (by assumption) (by with_unfolding_all exact rfl) | exact lt_big (by assumption) (by with_unfolding_all exact rfl) | exact Nat.le_of_ble_eq_true (by with_unfolding_all exact rfl) | exact Nat.ne_of_gt (lt_s (by assumption)) | exact Nat.ne_of_gt (lt_s (lt_s (by assumption))) | exact Nat.ne_of_gt (lt_s (lt_s (lt_s (by assumption)))) | exact Nat.ne_of_lt (by k_extra "!lt9") | exact Nat.ne_of_gt (by k_extra "!lt9") | (refine Nat.lt_of_lt_of_le ?_ (Nat.le_refl _); k_extra "!lt9") | fail
  k_with "!call builtin:len" => (k_here; (with_reducible show wpAny _ _ (call (Value.builtin "len") [Value.ref _]) _ _ _); k_dflt (refine' L_len ?N ?m ?z ?_; (case N => k_asm); (case m => k_mem); (case z => omega); k_whole))
  k_with "!item" => first | (k_here; (with_reducible show wpAny _ _ (subscriptTail _ _ (Value.ref _) (Value.int _ _)) _ _ _); k_dflt (refine' kim_list ?N ?m ?c ?d ?z ?f ?x ?_; (case N => k_asm); (case m => k_mem); (case c => rfl); (case d => rfl); (case z => omega); (case f => omega); (case x => (try simp only [Int.toNat_natCast]); first | assumption | rfl | exact List.getElem?_eq_getElem (by omega)); k_whole)) | (k_here; (with_reducible show wpAny _ _ (subscriptTail _ _ (Value.ref _) (Value.int _ _)) _ _ _); k_dflt (refine' kda_item (knd := PySem.intKind _ _) ?N ?m ?d (intKind_is _ _ _ _) ?v ?_; (case N => k_asm); (case d => assumption); (case m => k_mem); (case v => assumption); k_whole))
  k_with "!subscriptTail" => k_extra "!item"
  k_with "!subscriptTail Name Constant ref int" => k_extra "!item"
  k_with "!subscriptTail Name Name ref int" => k_extra "!item"
  k_with "!k_all" => first | exact ne_of_allLt (by assumption) | exact ne_of_allLt (And.right (by assumption)) | exact ne_of_allLt (And.right (And.right (by assumption)))
  k_with "!sub" => first | exact fun _ h => h | (with_reducible assumption) | exact sub_app (by assumption) | exact sub_app (fun _ h => h) | exact (fun _ h => List.mem_append_right _ h) | (refine sub_cc ?_; k_extra "!sub") | (refine sub_tl ?_; k_extra "!sub")
  k_with "!k_handed" => with_reducible assumption
  k_with "!k_all" => first | exact ne_of_allNe (by assumption) | exact ne_of_allNe (And.right (by assumption)) | exact ne_of_allNe (And.right (And.right (by assumption)))
  k_with "!k_all" => first | exact ne_of_lts2 (by assumption) | (with_reducible assumption)
  k_with "!k_mem" => assumption
  k_with "!revslice" => (k_here; (with_reducible show wpAny _ _ (subscriptTail _ (PySem.Expr.Slice none none (some _) _) (Value.ref _) (Value.ref _)) _ _ _); k_dflt (refine' krv_ints ?F ?N ?l ?k ?i ?_ ?s ?t ?z; (case F => k_asm); (case N => k_asm); (case l => exact L_isList (by k_asm) (by k_mem)); (case k => exact IsPart.int _ _); (case i => assumption); (case s => with_unfolding_all rfl); (case t => (intro _; with_unfolding_all rfl)); (case z => (rw [List.size_toArray, sizeLine_eq]; omega))); intro zqD zqws zqh zqF zqN zql1 zqhI zqhC; (have zqhW := IntsAre.length zqhI); (replace zql1 := allLt_of zql1); (try simp only [AllLt, and_true] at zql1))
  k_with "!subscriptTail Name Slice ref ref" => k_extra "!revslice"
  k_with "!compareOp In int ref" => (k_here; k_dflt (refine' in_list_ints ?hl ?hi ?_; (case hl => exact L_isList (by k_asm) (by k_mem)); (case hi => assumption); k_whole))
  k_with "!exec Assign cons ListComp" => (k_here; (rename Fr _ _ _ _ => zqlF9); k_dflt (refine comp_assign zqlF9 (by rfl) (by with_unfolding_all rfl) (by with_unfolding_all rfl) (by decide) (by rfl) (by decide) (by rfl) (by rfl) (by rfl) ?_))
  k_cells Y
  simp only [List.cons_append, List.nil_append] at N
  have hc1 : ∀ p ∈ FP, p.1 ≠ L' + 1 := fun p hp => Nat.ne_of_lt (Nat.lt_succ_of_lt (lt p hp))
  have hc2 : ∀ p ∈ FP, p.1 ≠ L' + 1 + 1 := fun p hp => Nat.ne_of_lt (Nat.lt_succ_of_lt (Nat.lt_succ_of_lt (lt p hp)))
  obtain ⟨E, hE, ⟨tkk, hk⟩, hpv⟩ := hρ.ent i hi
  have hul := Shape.up_len hS hi
  have hsm := hS.small
  have hpl := hpv.length
  have hpz : E.pv.length < 500 := by rw [hpv.length]; simp only [natInts, List.length_map, List.length_reverse]; omega
  have hD := hs _ (.head _)
  have hdict := hρ.dict
  have hv : valueAt (kvsFrom 0 ρ.ents) (i : Int) = some (.ref E.e) := by simpa using kvsFrom_value ρ.ents 0 i hE
  have hE1 := hs _ (RowsC.at hE _ (.head _))
  have hE2 := hs _ (RowsC.at hE _ (.tail _ (.head _)))
  rw [hk] at hE1
  k_steps
  rename News _ _ _ _ => lN
  rename (IntsAre _ (List.reverse _)) => hI9
  rename IsRange _ _ _ _ _ _ _ _ => hR9
  have hlW : (natInts (S.up (some i)).reverse).reverse.length = (S.up (some i)).length := by simp [natInts]
  rw [hlW] at hR9
  rw [show (natInts (S.up (some i)).reverse).reverse = natInts (S.up (some i)) from by simp [natInts]] at hI9
  have hW1 : 0 < (S.up (some i)).length := by rw [Shape.up_some hS hi]; simp
  rename (_ ∧ _ ∧ AllLt _ _) => l9
  refine src_range_ro (n := (S.up (some i)).length - 1) (fun k ys => IntsAre ys (natInts (((List.range k).map (· + 1)).filter (fun a => begins.contains ((S.up (some i)).getD a 0))))) rfl (by assumption) lN hR9 (small_one (by omega) (by omega) (by omega) (by omega)) ?_ (by omega) ⟨.nil⟩ ?turn ?fin
  · unfold Builtin.Range.rangeSize
    rw [if_pos (by decide)]
    split
    · rw [Int.ediv_one]; omega
    · omega
  · refine ⟨fun g₂ k ys hk9 hJ v I oI C oC Da m₂ h₂ tk₂ hP hO hm F₂ N₂ off ne => ?_⟩
    obtain ⟨t₂, rfl⟩ := hP
    obtain ⟨tq, hq⟩ := hI9.get (1 + k) (((S.up (some i)).getD (1 + k) 0 : Nat) : Int) (by simp only [natInts, List.getElem?_map, List.getD_eq_getElem?_getD]; rw [List.getElem?_eq_getElem (by omega)]; rfl)
    rw [show 1 + k = (1 + (k : Int)).toNat from by omega] at hq
    k_steps
    · rename (List.any _ _ = true) => ha9
      rename News _ _ _ _ => N₃
      refine ⟨_, _, rfl, by assumption, N₃, ?_⟩
      rw [any_natInts, show (1 + (k : Int)).toNat = k + 1 from by omega] at ha9
      rw [show (1 : Int) + (k : Int) = ((k + 1 : Nat) : Int) from by omega, List.range_succ, List.map_append, List.filter_append, List.map_cons, List.map_nil, List.filter_cons, if_pos ha9, List.filter_nil, natInts_snoc]
      exact ints_snoc hJ
    · rename (List.any _ _ = false) => ha9
      rename News _ _ _ _ => N₃
      refine ⟨_, _, rfl, by assumption, N₃, ?_⟩
      rw [any_natInts, show (1 + (k : Int)).toNat = k + 1 from by omega] at ha9
      rw [List.range_succ, List.map_append, List.filter_append, List.map_cons, List.map_nil, List.filter_cons, ha9]
      simpa using hJ
  · refine ⟨fun g₂ ys hJ => ?_⟩
    have hyz : ys.length < 500 := by rw [hJ.length]; simp only [natInts, List.length_map]; exact Nat.lt_of_le_of_lt (List.length_filter_le _ _) (by rw [List.length_map, List.length_range]; omega)
    generalize hL0 : List.filter _ _ = l0 at hJ
    cases l0 with
    | nil =>
      cases hJ
      k_steps
      rename News _ _ _ _ => N₃
      refine ⟨_, _, _, rfl, by assumption, ⟨⟨_, _, rfl, fresh_of kp N₃ (.tail _ (.tail _ (.head _))) (ne_of_allLt (And.right (And.right l9))), (N₃ _ (.tail _ (.tail _ (.head _)))).1, _, _, rfl, ?_⟩, led_of N₃ (by walk_at "sub")⟩⟩
      rw [Shape.upTo_none hS hi _ hL0]
      exact hI9
    | cons e r =>
      cases hJ with
      | cons _ t3 hJ' =>
      k_steps
      · rename (decide _ = true) => hd9
        simp at hd9
      · rename News _ _ _ _ => N₃
        rename (_ ∧ _ ∧ _ ∧ _ ∧ _ ∧ AllLt _ _) => l8
        rename (IntsAre _ (List.take _ _)) => hI8
        refine ⟨_, _, _, rfl, by assumption, ⟨⟨_, _, rfl, fresh_of kp N₃ (.head _) (ne_of_allLt l8.2.2.2.2.2), (N₃ _ (.head _)).1, _, _, rfl, ?_⟩, led_of N₃ (by walk_at "sub")⟩⟩
        rw [Shape.upTo_first hS hi _ hL0]
        simpa [natInts] using hI8
end
section
example : True := by
  w_top off
  k_with_none
  k_with "!c1" => first | assumption | exact And.right (by k_extra "!c2") | fail
  k_with "!c2" => first | assumption | exact And.right (by k_extra "!c3") | fail
  k_with "!c3" => first | assumption | exact And.right (by k_extra "!c4") | fail
  k_with "!c4" => first | assumption | exact And.right (by k_extra "!c5") | fail
  k_with "!c5" => first | assumption | exact And.right (by k_extra "!c6") | fail
  k_with "!c6" => first | assumption | exact And.right (by k_extra "!c7") | fail
  k_with "!c7" => first | assumption | exact And.right (by k_extra "!c8") | fail
  k_with "!c8" => assumption
  k_with "!lt9" => with_reducible first | exact And.left (by k_extra "!c1") | exact And.right (by k_extra "!c1") | fail
  k_with "!omega" => with_reducible first | exact lt_dp (by assumption) (by with_unfolding_all exact rfl) | exact lt_un (by assumption) (by with_unfolding_all exact rfl) | assumption | exact Ne.symm (by assumption) | exact Nat.ne_of_lt (by assumption) | exact Nat.ne_of_gt (by assumption) | exact le_big (by assumption) (by with_unfolding_all exact rfl) | exact le_big2 (by assumption) (by with_unfolding_all exact rfl) | exact lt_big (by assumption) (by with_unfolding_all exact rfl) | exact Nat.le_of_ble_eq_true (by with_unfolding_all exact rfl) | exact Nat.ne_of_gt (lt_s (by assumption)) | exact Nat.ne_of_gt (lt_s (lt_s (by assumption))) | exact Nat.ne_of_gt (lt_s (lt_s (lt_s (by assumption)))) | exact Nat.ne_of_lt (by k_extra "!lt9") | exact Nat.ne_of_gt (by k_extra "!lt9") | (refine Nat.lt_of_lt_of_le ?_ (Nat.le_refl _); k_extra "!lt9") | fail
  k_with "!call builtin:len" => (k_here; (with_reducible show wpAny _ _ (call (Value.builtin "len") [Value.ref _]) _ _ _); k_dflt (refine' L_len ?N ?m ?z ?_; (case N => k_asm); (case m => k_mem); (case z => omega); k_whole))
  k_with "!item" => first | (k_here; (with_reducible show wpAny _ _ (subscriptTail _ _ (Value.ref _) (Value.int _ _)) _ _ _); k_dflt (refine' kim_list ?N ?m ?c ?d ?z ?f ?x ?_; (case N => k_asm); (case m => k_mem); (case c => rfl); (case d => rfl); (case z => omega); (case f => omega); (case x => (try simp only [Int.toNat_natCast]); first | assumption | rfl | exact List.getElem?_eq_getElem (by omega)); k_whole)) | (k_here; (with_reducible show wpAny _ _ (subscriptTail _ _ (Value.ref _) (Value.int _ _)) _ _ _); k_dflt (refine' kda_item (knd := PySem.intKind _ _) ?N ?m ?d (intKind_is _ _ _ _) ?v ?_; (case N => k_asm); (case d => assumption); (case m => k_mem); (case v => assumption); k_whole))
  k_with "!subscriptTail" => k_extra "!item"
  k_with "!subscriptTail Name Constant ref int" => k_extra "!item"
  k_with "!subscriptTail Name Name ref int" => k_extra "!item"
  k_with "!k_all" => first | exact ne_of_allLt (by assumption) | exact ne_of_allLt (And.right (by assumption)) | exact ne_of_allLt (And.right (And.right (by assumption)))
  k_with "!sub" => first | exact fun _ h => h | (with_reducible assumption) | exact sub_app (by assumption) | exact sub_app (fun _ h => h) | exact (fun _ h => List.mem_append_right _ h) | (refine sub_cc ?_; k_extra "!sub") | (refine sub_tl ?_; k_extra "!sub")
  k_with "!U" => ((case B => assumption); (case F => k_asm); (case X => assumption); (case T => assumption); (case hf => exact rfl); (case hk => exact rfl); (case N => k_asm); (case hs => k_extra "!sub"); (case hdp => ((try dsimp only); omega)); (case hun => ((try dsimp only); omega)); k_whole)
  k_with "!k_handed" => with_reducible assumption
  k_with "!k_all" => first | exact ne_of_allNe (by assumption) | exact ne_of_allNe (And.right (by assumption)) | exact ne_of_allNe (And.right (And.right (by assumption)))
  k_with "!call ref" => k_extra "call ref"
  k_with "!k_all" => first | exact ne_of_lts2 (by assumption) | (with_reducible assumption)
  k_with "!k_mem" => assumption
  k_with "!callWith ref" => (k_here; k_dflt (first | (refine' callWith_K ?k1 ?k2 ?_; (case k1 => k_asm); (case k2 => k_is); k_whole) | (refine' callWith_K0 ?k1 ?k2 ?_; (case k1 => k_in); (case k2 => k_is); k_whole) | (refine' callWith_M0 ?k1 ?k2 ?_; (case k1 => k_meth); (case k2 => k_is); k_whole; try dsimp only [List.nil_append, List.cons_append]) | (refine' callWith_M ?k1 ?k2 ?k3 ?k4 ?_; (case k1 => k_asm); (case k2 => k_asm); (case k3 => k_mem); (case k4 => k_is); k_whole) | (refine' callWith_F ?k1 ?_; (case k1 => exact FnAt.of (by k_asm) (by k_mem)); k_whole)))
  k_with "!revslice" => (k_here; (with_reducible show wpAny _ _ (subscriptTail _ (PySem.Expr.Slice none none (some _) _) (Value.ref _) (Value.ref _)) _ _ _); k_dflt (refine' krv_ints ?F ?N ?l ?k ?i ?_ ?s ?t ?z; (case F => k_asm); (case N => k_asm); (case l => exact L_isList (by k_asm) (by k_mem)); (case k => exact IsPart.int _ _); (case i => assumption); (case s => with_unfolding_all rfl); (case t => (intro _; with_unfolding_all rfl)); (case z => (rw [List.size_toArray, sizeLine_eq]; omega))); intro zqD zqws zqh zqF zqN zql1 zqhI zqhC; (have zqhW := IntsAre.length zqhI); (replace zql1 := allLt_of zql1); (try simp only [AllLt, and_true] at zql1))
  k_with "!subscriptTail Name Slice ref ref" => k_extra "!revslice"
  k_with "!compareOp In int ref" => (k_here; k_dflt (refine' in_list_ints ?hl ?hi ?_; (case hl => exact L_isList (by k_asm) (by k_mem)); (case hi => assumption); k_whole))
  k_with "!exec Assign cons ListComp" => (k_here; (rename Fr _ _ _ _ => zqlF9); k_dflt (refine comp_assign zqlF9 (by rfl) (by with_unfolding_all rfl) (by with_unfolding_all rfl) (by decide) (by rfl) (by decide) (by rfl) (by rfl) (by rfl) ?_))
  k_with "!eval ListComp" => (k_here; (rename Fr _ _ _ _ => zqlF9); k_dflt (refine comp_expr zqlF9 (by with_unfolding_all rfl) (by decide) (by rfl) (by decide) (by rfl) ?_))
  trivial
/-- the store's shape, told by parents and kinds alone -/
structure Shape.Nice (S : Shape) : Prop where
  ch : ∀ j, j < S.n → S.ch j = (List.range S.n).filter (fun c => S.par c == some j && S.child c)
  kinds : ∀ i, i < S.n → S.par i ≠ none → (S.child i = true ↔ ¬ (S.kind i = Str.ofString "attribute" ∨ S.kind i = Str.ofString "namespace"))

theorem Shape.short {S : Shape} {τ : TreeC} (hS : S.Of τ) {i : Nat} (hi : i < S.n) : (S.up (some i)).length < 2 ↔ S.par i = none := by
  rw [Shape.up_some hS hi]
  cases hp : S.par i with
  | none => simp [Shape.up]
  | some j => rw [Shape.up_some hS (Nat.lt_trans (hS.below i j hi hp) hi)]; simp
theorem Shape.place_none {S : Shape} {p : Nat → Bool} {i : Nat} (h : S.par i = none) : S.place p i = 1 := by rw [Shape.place, h]
theorem Shape.place_notch {S : Shape} (hG : S.Nice) {p : Nat → Bool} {i : Nat} (hi : i < S.n) (h : S.child i = false) : S.place p i = 1 := by
  rw [Shape.place]
  cases hp : S.par i with
  | none => rfl
  | some j =>
    have hq := hG.kinds i hi (by rw [hp]; simp)
    by_cases hz : S.kind i = Str.ofString "attribute" ∨ S.kind i = Str.ofString "namespace"
    · simp only [if_pos hz]
    · rw [hq.mpr hz] at h; cases h
theorem kv_key {w : World} {ents : List EntC} {k : Nat} {v : Value} (h : ∃ key x, (kvsFrom 0 ents)[k]? = some (key, x) ∧ (PySem.intKind Prg w).is key v = true) : ∃ t, v = .int (k : Int) t := by
  obtain ⟨key, x, e, h⟩ := h
  rw [kvsFrom_get] at e
  obtain ⟨E, -, e⟩ := Option.map_eq_some_iff.mp e
  obtain ⟨t, rfl⟩ := Value.isInt_shape h
  cases e
  exact ⟨t, by rw [Nat.zero_add]⟩

theorem nsub {h₀ h : Heap} {L : Addr} {l l' : List (Addr × Obj)} (N : News h₀ L h l') (hs : ∀ q ∈ l, q ∈ l') : News h₀ L h l := fun q hq => N q (hs q hq)
theorem natInts_inj : ∀ {l l' : List Nat}, natInts l = natInts l' → l = l'
  | [], [], _ => rfl
  | [], _ :: _, h => by simp [natInts] at h
  | _ :: _, [], h => by simp [natInts] at h
  | a :: r, b :: r', h => by
    simp only [natInts, List.map_cons, List.cons.injEq] at h
    rw [natInts_inj (l := r) (l' := r') h.2, show a = b from by omega]
theorem Shape.way_take {S : Shape} {τ : TreeC} (hS : S.Of τ) {k : Nat} (hk : k < S.n) : List.take ((natInts (S.up (some k)).reverse).length - 1) (natInts (S.up (some k)).reverse) = natInts (S.up (S.par k)).reverse := by
  rw [Shape.up_some hS hk]
  simp only [natInts, List.reverse_cons, List.map_append, List.length_append, List.length_map, List.length_reverse, List.map_cons, List.map_nil, List.length_cons, List.length_nil]
  rw [List.take_append_of_le_length (by simp), List.take_of_length_le (by simp)]
theorem Shape.up_inj {S : Shape} {τ : TreeC} (hS : S.Of τ) {a b : Option Nat} (ha : ∀ j, a = some j → j < S.n) (hb : ∀ j, b = some j → j < S.n) (h : S.up a = S.up b) : a = b := by
  cases a with
  | none => cases b with
    | none => rfl
    | some j => rw [Shape.up_some hS (hb j rfl)] at h; simp [Shape.up] at h
  | some i => rw [Shape.up_some hS (ha i rfl)] at h; cases b with
    | none => simp [Shape.up] at h
    | some j => rw [Shape.up_some hS (hb j rfl)] at h; simp only [List.cons.injEq] at h; rw [h.1]
theorem Shape.way_eq {S : Shape} {τ : TreeC} (hS : S.Of τ) {k i : Nat} (hk : k < S.n) (hi : i < S.n) :
    (List.take ((natInts (S.up (some k)).reverse).length - 1) (natInts (S.up (some k)).reverse) = List.take ((natInts (S.up (some i)).reverse).length - 1) (natInts (S.up (some i)).reverse)) ↔ S.par k = S.par i := by
  rw [Shape.way_take hS hk, Shape.way_take hS hi]
  refine ⟨fun h => Shape.up_inj hS (fun j e => Nat.lt_trans (hS.below k j hk e) hk) (fun j e => Nat.lt_trans (hS.below i j hi e) hi) (List.reverse_inj.mp (natInts_inj h)), fun h => by rw [h]⟩
/-- ascending: what stands ahead of a member is what is less -/
theorem takeWhile_asc {i : Nat} : ∀ {l : List Nat}, l.Pairwise (· < ·) → i ∈ l → l.takeWhile (fun c => c != i) = l.filter (fun c => decide (c < i))
  | [], _, h => nomatch h
  | a :: r, hp, h => by
    obtain ⟨h1, h2⟩ := List.pairwise_cons.mp hp
    by_cases e : a = i
    · subst e
      rw [List.takeWhile_cons, if_neg (by simp), List.filter_cons, if_neg (by simp), List.filter_eq_nil_iff.mpr fun c hc => by have := h1 c hc; simp; omega]
    · have hr : i ∈ r := by
        rcases List.mem_cons.mp h with q | q
        · exact (e q.symm).elim
        · exact q
      have := h1 i hr
      rw [List.takeWhile_cons, if_pos (by simpa using e), List.filter_cons, if_pos (by simpa using this), takeWhile_asc h2 hr]
theorem Shape.place_like {S : Shape} {τ : TreeC} (hS : S.Of τ) (hG : S.Nice) {p : Nat → Bool} {i j : Nat} (hi : i < S.n) (hp : S.par i = some j) (hc : S.child i = true) :
    S.place p i = 1 + ((S.ch j).filter (fun c => decide (c < i) && p c)).length := by
  rw [Shape.place, hp]
  simp only [if_neg ((hG.kinds i hi (by rw [hp]; simp)).mp hc)]
  rw [takeWhile_asc, List.filter_filter]
  · congr 2; exact List.filter_congr fun c _ => Bool.and_comm _ _
  · rw [hG.ch j (Nat.lt_trans (hS.below i j hi hp) hi)]; exact List.Pairwise.filter _ List.pairwise_lt_range
  · rw [hG.ch j (Nat.lt_trans (hS.below i j hi hp) hi)]; exact List.mem_filter.mpr ⟨List.mem_range.mpr hi, by simp [hp, hc]⟩

theorem lplace_spec {w : World} {S : Shape} {τ : TreeC} (hS : S.Of τ) (hG : S.Nice) {ρ : RowsC} (hρ : RowsOf w S ρ) {i : Nat} {ti : Tok} (hi : i < S.n) {FP : List (Addr × Obj)} (hs : ∀ q ∈ ρ.led, q ∈ FP)
    {bl : Addr} {bs : List Value} {nb : Nat} {sm : List Nat} (hbl : (bl, listOf bs.toArray nb) ∈ FP) (hbs : IntsAre bs (natInts sm)) (hbz : bs.length < 500) {h : Heap} :
    Spec w (.ref 363) [.ref ρ.D, .int i ti, .ref bl] 6 FP (fun v h' => (∃ t, v = .int (S.place (fun c => sm.contains c) i) t) ∧ ∀ q ∈ FP, h'.get? q.1 = some q.2) h := by
  refine enterC (binds := [(Str.ofString "rows", .ref ρ.D), (Str.ofString "node", .int i ti), (Str.ofString "some", .ref bl)]) (by k_is) (by k_is) (fun s => BindsTo.of_eq rfl) (by rfl) (by decide +kernel) rfl rfl rfl ?_
  intro dp un gd env outer A₀ base g L' h₁ p' loose mean mg mb gs ds tk os cells B X T F N Y lt hdp hun kp
  k_fold
  k_with_none
  k_with "!c1" => first | assumption | exact And.right (by k_extra "!c2") | fail
  k_with "!c2" => first | assumption | exact And.right (by k_extra "!c3") | fail
  k_with "!c3" => first | assumption | exact And.right (by k_extra "!c4") | fail
  k_with "!c4" => first | assumption | exact And.right (by k_extra "!c5") | fail
  k_with "!c5" => first | assumption | exact And.right (by k_extra "!c6") | fail
  k_with "!c6" => first | assumption | exact And.right (by k_extra "!c7") | fail
  k_with "!c7" => first | assumption | exact And.right (by k_extra "!c8") | fail
  k_with "!c8" => assumption
  k_with "!lt9" => with_reducible first | exact And.left (by k_extra "!c1") | exact And.right (by k_extra "!c1") | fail
  k_with "!omega" => with_reducible first | exact lt_dp (by assumption) (by with_unfolding_all exact rfl) | exact lt_un (by assumption) (by with_unfolding_all exact rfl) | assumption | exact Ne.symm (by assumption) | exact Nat.ne_of_lt (by assumption) | exact Nat.ne_of_gt (by assumption) | exact le_big (by assumption) (by with_unfolding_all exact rfl) | exact le_big2 (by assumption) (by with_unfolding_all exact rfl) | exact lt_big (by assumption) (by with_unfolding_all exact rfl) | exact Nat.le_of_ble_eq_true (by with_unfolding_all exact rfl) | exact Nat.ne_of_gt (lt_s (by assumption)) | exact Nat.ne_of_gt (lt_s (lt_s (by assumption))) | exact Nat.ne_of_gt (lt_s (lt_s (lt_s (by assumption)))) | exact Nat.ne_of_lt (by k_extra "!lt9") | exact Nat.ne_of_gt (by k_extra "!lt9") | (refine Nat.lt_of_lt_of_le ?_ (Nat.le_refl _); k_extra "!lt9") | fail
  k_with "!call builtin:len" => (k_here; (with_reducible show wpAny _ _ (call (Value.builtin "len") [Value.ref _]) _ _ _); k_dflt (refine' L_len ?N ?m ?z ?_; (case N => k_asm); (case m => k_mem); (case z => omega); k_whole))
  k_with "!item" => first | (k_here; (with_reducible show wpAny _ _ (subscriptTail _ _ (Value.ref _) (Value.int _ _)) _ _ _); k_dflt (refine' kim_list ?N ?m ?c ?d ?z ?f ?x ?_; (case N => k_asm); (case m => k_mem); (case c => rfl); (case d => rfl); (case z => omega); (case f => omega); (case x => (try simp only [Int.toNat_natCast]); first | assumption | rfl | exact List.getElem?_eq_getElem (by omega)); k_whole)) | (k_here; (with_reducible show wpAny _ _ (subscriptTail _ _ (Value.ref _) (Value.int _ _)) _ _ _); k_dflt (refine' kda_item (knd := PySem.intKind _ _) ?N ?m ?d (intKind_is _ _ _ _) ?v ?_; (case N => k_asm); (case d => assumption); (case m => k_mem); (case v => assumption); k_whole))
  k_with "!subscriptTail" => k_extra "!item"
  k_with "!subscriptTail Name Constant ref int" => k_extra "!item"
  k_with "!subscriptTail Name Name ref int" => k_extra "!item"
  k_with "!k_all" => first | exact ne_of_allLt (by assumption) | exact ne_of_allLt (And.right (by assumption)) | exact ne_of_allLt (And.right (And.right (by assumption)))
  k_with "!sub" => first | exact fun _ h => h | (with_reducible assumption) | exact sub_app (by assumption) | exact sub_app (fun _ h => h) | exact (fun _ h => List.mem_append_right _ h) | (refine sub_cc ?_; k_extra "!sub") | (refine sub_tl ?_; k_extra "!sub")
  k_with "!U" => ((case B => assumption); (case F => k_asm); (case X => assumption); (case T => assumption); (case hf => exact rfl); (case hk => exact rfl); (case N => k_asm); (case hs => k_extra "!sub"); (case hdp => ((try dsimp only); omega)); (case hun => ((try dsimp only); omega)); k_whole)
  k_with "!k_handed" => with_reducible assumption
  k_with "!k_all" => first | exact ne_of_allNe (by assumption) | exact ne_of_allNe (And.right (by assumption)) | exact ne_of_allNe (And.right (And.right (by assumption)))
  k_with "!call ref" => k_extra "call ref"
  k_with "!k_all" => first | exact ne_of_lts2 (by assumption) | (with_reducible assumption)
  k_with "!k_mem" => assumption
  k_with "!callWith ref" => (k_here; k_dflt (first | (refine' callWith_K ?k1 ?k2 ?_; (case k1 => k_asm); (case k2 => k_is); k_whole) | (refine' callWith_K0 ?k1 ?k2 ?_; (case k1 => k_in); (case k2 => k_is); k_whole) | (refine' callWith_M0 ?k1 ?k2 ?_; (case k1 => k_meth); (case k2 => k_is); k_whole; try dsimp only [List.nil_append, List.cons_append]) | (refine' callWith_M ?k1 ?k2 ?k3 ?k4 ?_; (case k1 => k_asm); (case k2 => k_asm); (case k3 => k_mem); (case k4 => k_is); k_whole) | (refine' callWith_F ?k1 ?_; (case k1 => exact FnAt.of (by k_asm) (by k_mem)); k_whole)))
  k_with "!revslice" => (k_here; (with_reducible show wpAny _ _ (subscriptTail _ (PySem.Expr.Slice none none (some _) _) (Value.ref _) (Value.ref _)) _ _ _); k_dflt (refine' krv_ints ?F ?N ?l ?k ?i ?_ ?s ?t ?z; (case F => k_asm); (case N => k_asm); (case l => exact L_isList (by k_asm) (by k_mem)); (case k => exact IsPart.int _ _); (case i => assumption); (case s => with_unfolding_all rfl); (case t => (intro _; with_unfolding_all rfl)); (case z => (rw [List.size_toArray, sizeLine_eq]; omega))); intro zqD zqws zqh zqF zqN zql1 zqhI zqhC; (have zqhW := IntsAre.length zqhI); (replace zql1 := allLt_of zql1); (try simp only [AllLt, and_true] at zql1))
  k_with "!subscriptTail Name Slice ref ref" => k_extra "!revslice"
  k_with "!compareOp In int ref" => (k_here; k_dflt (refine' in_list_ints ?hl ?hi ?_; (case hl => exact L_isList (by k_asm) (by k_mem)); (case hi => assumption); k_whole))
  k_with "!exec Assign cons ListComp" => (k_here; (rename Fr _ _ _ _ => zqlF9); k_dflt (refine comp_assign zqlF9 (by rfl) (by with_unfolding_all rfl) (by with_unfolding_all rfl) (by decide) (by rfl) (by decide) (by rfl) (by rfl) (by rfl) ?_))
  k_with "!eval ListComp" => (k_here; (rename Fr _ _ _ _ => zqlF9); k_dflt (refine comp_expr zqlF9 (by with_unfolding_all rfl) (by decide) (by rfl) (by decide) (by rfl) ?_))
  k_cells Y
  simp only [List.cons_append, List.nil_append] at N
  obtain ⟨E, hE, ⟨tkk, hk⟩, hpv⟩ := hρ.ent i hi
  have hul := Shape.up_len hS hi
  have hsm := hS.small
  have hpl := hpv.length
  have hpz : E.pv.length < 500 := by rw [hpv.length]; simp only [natInts, List.length_map, List.length_reverse]; omega
  have hD := hs _ (.head _)
  have hdict := hρ.dict
  have hv : valueAt (kvsFrom 0 ρ.ents) (i : Int) = Option.some (.ref E.e) := by simpa using kvsFrom_value ρ.ents 0 i hE
  have hE1 := hs _ (RowsC.at hE _ (.head _))
  have hE2 := hs _ (RowsC.at hE _ (.tail _ (.head _)))
  rw [hk] at hE1
  have hc1 : ∀ p ∈ FP, p.1 ≠ L' + 1 := fun p hp => Nat.ne_of_lt (Nat.lt_succ_of_lt (lt p hp))
  have hc2 : ∀ p ∈ FP, p.1 ≠ L' + 1 + 1 := fun p hp => Nat.ne_of_lt (Nat.lt_succ_of_lt (Nat.lt_succ_of_lt (lt p hp)))
  have hc3 : ∀ p ∈ FP, p.1 ≠ L' + 1 + 1 + 1 := fun p hp => Nat.ne_of_lt (Nat.lt_succ_of_lt (Nat.lt_succ_of_lt (Nat.lt_succ_of_lt (lt p hp))))
  have hc4 : ∀ p ∈ FP, p.1 ≠ L' + 1 + 1 + 1 + 1 := fun p hp => Nat.ne_of_lt (Nat.lt_succ_of_lt (Nat.lt_succ_of_lt (Nat.lt_succ_of_lt (Nat.lt_succ_of_lt (lt p hp)))))
  have hlenE := hρ.len
  have hklen : (kvsFrom 0 ρ.ents).length = S.n := by rw [kvsFrom_len]; exact hlenE
  k_with "call ref" =>
    refine' use_ro (child_spec hρ hi hs) ?B ?F ?X ?T ?hf ?hk ?N ?hs ?hdp ?hun ?_
    walk_at "U"
    intro v' h' tk' F' N' ka' hv'
    subst hv'
  k_steps
  · rename News _ _ _ _ => N'
    rename (_ < (2 : Int)) => h2
    have hl7 : (natInts (S.up (some i)).reverse).length = (S.up (some i)).length := by simp [natInts]
    refine ⟨_, _, _, rfl, by assumption, ktn_int ?_, led_of N' (by walk_at "sub")⟩
    rw [Shape.place_none ((Shape.short hS hi).mp (by omega))]; rfl
  · rename News _ _ _ _ => lN
    rename (¬ _ < (2 : Int)) => h2
    rename (S.child i = true) => hch
    refine src_dict_ro (fun k ys => IntsAre ys (natInts ((List.range k).filter (fun c => S.par c == S.par i && S.child c)))) rfl (by assumption) lN (by k_mem) hdict hρ.lo (by omega) ⟨.nil⟩ ?turn ?fin
    · refine ⟨fun g₂ k ys hk9 hJ v I oI C oC Da m₂ h₂ tk₂ hP hO hm F₂ N₂ off ne => ?_⟩
      obtain ⟨t₂, rfl⟩ := kv_key hP
      have hkn : k < S.n := by omega
      obtain ⟨Ek, hEk, ⟨tkk2, hkk⟩, hpvk⟩ := hρ.ent k hkn
      have hulk := Shape.up_len hS hkn
      have hplk := hpvk.length
      have hpzk : Ek.pv.length < 500 := by rw [hpvk.length]; simp only [natInts, List.length_map, List.length_reverse]; omega
      have hvk : valueAt (kvsFrom 0 ρ.ents) (k : Int) = some (.ref Ek.e) := by simpa using kvsFrom_value ρ.ents 0 k hEk
      have hEk1 := hs _ (RowsC.at hEk _ (.head _))
      have hEk2 := hs _ (RowsC.at hEk _ (.tail _ (.head _)))
      rw [hkk] at hEk1
      k_with "call ref" =>
        refine' use_ro (child_spec hρ hkn hs) ?B ?F ?X ?T ?hf ?hk ?N ?hs ?hdp ?hun ?_
        walk_at "U"
        intro v' h' tk' F' N' ka' hv'
        subst hv'
      k_steps
      · rename News _ _ _ _ => N₃
        rename (List.take _ _ = List.take _ _) => he9
        rename (S.child k = true) => hc9
        refine ⟨_, _, rfl, by assumption, nsub N₃ (by walk_at "sub"), ?_⟩
        rw [List.range_succ, List.filter_append, List.filter_cons, if_pos (by rw [hc9, (Shape.way_eq hS hkn hi).mp he9]; simp), List.filter_nil, natInts_snoc]
        exact ints_snoc hJ
      · rename News _ _ _ _ => N₃
        rename (S.child k = false) => hc9
        refine ⟨_, _, rfl, by assumption, nsub N₃ (by walk_at "sub"), ?_⟩
        rw [List.range_succ, List.filter_append, List.filter_cons, if_neg (by rw [hc9]; simp), List.filter_nil, List.append_nil]
        exact hJ
      · rename News _ _ _ _ => N₃
        rename (¬ List.take _ _ = List.take _ _) => he9
        refine ⟨_, _, rfl, by assumption, nsub N₃ (by walk_at "sub"), ?_⟩
        rw [List.range_succ, List.filter_append, List.filter_cons, if_neg (by have := mt (Shape.way_eq hS hkn hi).mpr he9; simp [this]), List.filter_nil, List.append_nil]
        exact hJ
    · obtain ⟨j, hp⟩ : ∃ j, S.par i = some j := by
        cases hp : S.par i with
        | none =>
          have hl7 : (natInts (S.up (some i)).reverse).length = (S.up (some i)).length := by simp [natInts]
          have := (Shape.short hS hi).mpr hp
          omega
        | some j => exact ⟨j, rfl⟩
      refine ⟨fun g₂ ys hJ => ?_⟩
      have hjn := Nat.lt_trans (hS.below i j hi hp) hi
      rw [hklen, hp, ← hG.ch j hjn] at hJ
      have hyl := hJ.length
      have hcl := (hS.chs j hjn).1
      have hyz : ys.length < 500 := by rw [hyl]; simp only [natInts, List.length_map]; omega
      k_steps
      rename News _ _ _ _ => lN
      refine src_list_ro (vs := ys) (fun k zs => IntsAre zs (natInts (((S.ch j).take k).filter (fun c => decide (c < i) && sm.contains c)))) rfl (by assumption) lN (.head _) (by omega) ⟨.nil⟩ ?turn2 ?fin2
      · refine ⟨fun g₂ k ys hk9 hJ2 v I oI C oC Da m₂ h₂ tk₂ hP hO hm F₂ N₂ off ne => ?_⟩
        obtain ⟨c, tc, hc, rfl⟩ := natInts_get hJ hP
        k_steps
        · rename (List.any _ _ = true) => ha9
          rename ((c : Int) < (i : Int)) => hl9
          rename News _ _ _ _ => N₃
          refine ⟨_, _, rfl, by assumption, N₃, ?_⟩
          rw [any_natInts] at ha9
          rw [take_snoc hc, List.filter_append, List.filter_cons, if_pos (by rw [ha9]; simp; omega), List.filter_nil, natInts_snoc]
          exact ints_snoc hJ2
        · rename (List.any _ _ = false) => ha9
          rename News _ _ _ _ => N₃
          refine ⟨_, _, rfl, by assumption, N₃, ?_⟩
          rw [any_natInts] at ha9
          rw [take_snoc hc, List.filter_append, List.filter_cons, if_neg (by rw [ha9]; simp), List.filter_nil, List.append_nil]
          exact hJ2
        · rename (¬ (c : Int) < (i : Int)) => hl9
          rename News _ _ _ _ => N₃
          refine ⟨_, _, rfl, by assumption, N₃, ?_⟩
          rw [take_snoc hc, List.filter_append, List.filter_cons, if_neg (by simp; omega), List.filter_nil, List.append_nil]
          exact hJ2
      · refine ⟨fun g₂ zs hJ2 => ?_⟩
        have hzl := hJ2.length
        have hyl2 : ys.length = (S.ch j).length := by rw [hyl]; simp [natInts]
        rw [hyl2, List.take_length] at hJ2 hzl
        have hzz : zs.length < 500 := by rw [hzl]; simp only [natInts, List.length_map]; exact Nat.lt_of_le_of_lt (List.length_filter_le _ _) (by omega)
        k_steps
        rename News _ _ _ _ => N₃
        refine ⟨_, _, _, rfl, by assumption, ktn_int ?_, led_of N₃ (by walk_at "sub")⟩
        rw [Shape.place_like hS hG hi hp hch]
        simp only [natInts, List.length_map] at hzl
        omega
  · rename News _ _ _ _ => N'
    rename (S.child i = false) => h2
    refine ⟨_, _, _, rfl, by assumption, ktn_int ?_, led_of N' (by walk_at "sub")⟩
    rw [Shape.place_notch hG hi h2]; rfl
end
section
example : True := by
  w_top off
  k_with_none
  k_with "!c1" => first | assumption | exact And.right (by k_extra "!c2") | fail
  k_with "!c2" => first | assumption | exact And.right (by k_extra "!c3") | fail
  k_with "!c3" => first | assumption | exact And.right (by k_extra "!c4") | fail
  k_with "!c4" => first | assumption | exact And.right (by k_extra "!c5") | fail
  k_with "!c5" => first | assumption | exact And.right (by k_extra "!c6") | fail
  k_with "!c6" => first | assumption | exact And.right (by k_extra "!c7") | fail
  k_with "!c7" => first | assumption | exact And.right (by k_extra "!c8") | fail
  k_with "!c8" => assumption
  k_with "!lt9" => with_reducible first | exact And.left (by k_extra "!c1") | exact And.right (by k_extra "!c1") | fail
  k_with "!omega" => with_reducible first | exact lt_dp (by assumption) (by with_unfolding_all exact rfl) | exact lt_un (by assumption) (by with_unfolding_all exact rfl) | assumption | exact Ne.symm (by assumption) | exact Nat.ne_of_lt (by assumption) | exact Nat.ne_of_gt (by assumption) | exact le_big (by assumption) (by with_unfolding_all exact rfl) | exact le_big2 (by assumption) (by with_unfolding_all exact rfl) | exact lt_big (by assumption) (by with_unfolding_all exact rfl) | exact Nat.le_of_ble_eq_true (by with_unfolding_all exact rfl) | exact Nat.ne_of_gt (lt_s (by assumption)) | exact Nat.ne_of_gt (lt_s (lt_s (by assumption))) | exact Nat.ne_of_gt (lt_s (lt_s (lt_s (by assumption)))) | exact Nat.ne_of_lt (by k_extra "!lt9") | exact Nat.ne_of_gt (by k_extra "!lt9") | (refine Nat.lt_of_lt_of_le ?_ (Nat.le_refl _); k_extra "!lt9") | fail
  k_with "!call builtin:len" => (k_here; (with_reducible show wpAny _ _ (call (Value.builtin "len") [Value.ref _]) _ _ _); k_dflt (refine' L_len ?N ?m ?z ?_; (case N => k_asm); (case m => k_mem); (case z => omega); k_whole))
  k_with "!item" => first | (k_here; (with_reducible show wpAny _ _ (subscriptTail _ _ (Value.ref _) (Value.int _ _)) _ _ _); k_dflt (refine' kim_list ?N ?m ?c ?d ?z ?f ?x ?_; (case N => k_asm); (case m => k_mem); (case c => rfl); (case d => rfl); (case z => omega); (case f => omega); (case x => (try simp only [Int.toNat_natCast]); first | assumption | rfl | exact List.getElem?_eq_getElem (by omega)); k_whole)) | (k_here; (with_reducible show wpAny _ _ (subscriptTail _ _ (Value.ref _) (Value.int _ _)) _ _ _); k_dflt (refine' kda_item (knd := PySem.intKind _ _) ?N ?m ?d (intKind_is _ _ _ _) ?v ?_; (case N => k_asm); (case d => assumption); (case m => k_mem); (case v => assumption); k_whole))
  k_with "!subscriptTail" => k_extra "!item"
  k_with "!subscriptTail Name Constant ref int" => k_extra "!item"
  k_with "!subscriptTail Name Name ref int" => k_extra "!item"
  k_with "!k_all" => first | exact ne_of_allLt (by assumption) | exact ne_of_allLt (And.right (by assumption)) | exact ne_of_allLt (And.right (And.right (by assumption)))
  k_with "!sub" => first | exact fun _ h => h | (with_reducible assumption) | exact sub_app (by assumption) | exact sub_app (fun _ h => h) | exact (fun _ h => List.mem_append_right _ h) | (refine sub_cc ?_; k_extra "!sub") | (refine sub_tl ?_; k_extra "!sub")
  k_with "!U" => ((case B => assumption); (case F => k_asm); (case X => assumption); (case T => assumption); (case hf => exact rfl); (case hk => exact rfl); (case N => k_asm); (case hs => k_extra "!sub"); (case hdp => ((try dsimp only); omega)); (case hun => ((try dsimp only); omega)); k_whole)
  k_with "!k_handed" => with_reducible assumption
  k_with "!call type:list" => (k_here; (with_reducible show wpAny _ _ (call (Value.type "list") [Value.ref _]) _ _ _); k_dflt (refine' L_copy ?F ?N ?m ?z ?_; (case F => k_asm); (case N => k_asm); (case m => k_mem); (case z => omega); k_whole); intro zqD zqc zqh zqF zqN zql1; (try simp only [AllLt, and_true] at zql1))
  k_with "!k_all" => first | exact ne_of_allNe (by assumption) | exact ne_of_allNe (And.right (by assumption)) | exact ne_of_allNe (And.right (And.right (by assumption)))
  k_with "!subscriptTail Name Call ref int" => k_extra "!item"
  k_with "!exec While Compare cons nil" => k_extra "exec While Compare cons nil"
  k_with "!call ref" => k_extra "call ref"
  k_with "!k_all" => first | exact ne_of_lts2 (by assumption) | (with_reducible assumption)
  k_with "!k_mem" => assumption
  k_with "!callWith ref" => (k_here; k_dflt (first | (refine' callWith_K ?k1 ?k2 ?_; (case k1 => k_asm); (case k2 => k_is); k_whole) | (refine' callWith_K0 ?k1 ?k2 ?_; (case k1 => k_in); (case k2 => k_is); k_whole) | (refine' callWith_M0 ?k1 ?k2 ?_; (case k1 => k_meth); (case k2 => k_is); k_whole; try dsimp only [List.nil_append, List.cons_append]) | (refine' callWith_M ?k1 ?k2 ?k3 ?k4 ?_; (case k1 => k_asm); (case k2 => k_asm); (case k3 => k_mem); (case k4 => k_is); k_whole) | (refine' callWith_F ?k1 ?_; (case k1 => exact FnAt.of (by k_asm) (by k_mem)); k_whole)))
  k_with "!exec For Name Call cons nil" => k_extra "exec For"
  k_with "!exec For Name Name cons nil" => k_extra "exec For"
  k_with "!exec For Name Attribute cons nil" => k_extra "exec For"
  k_with "!pyIter ref" => k_extra "pyIter ref"
  k_with "!revslice" => (k_here; (with_reducible show wpAny _ _ (subscriptTail _ (PySem.Expr.Slice none none (some _) _) (Value.ref _) (Value.ref _)) _ _ _); k_dflt (refine' krv_ints ?F ?N ?l ?k ?i ?_ ?s ?t ?z; (case F => k_asm); (case N => k_asm); (case l => exact L_isList (by k_asm) (by k_mem)); (case k => exact IsPart.int _ _); (case i => assumption); (case s => with_unfolding_all rfl); (case t => (intro _; with_unfolding_all rfl)); (case z => (rw [List.size_toArray, sizeLine_eq]; omega))); intro zqD zqws zqh zqF zqN zql1 zqhI zqhC; (have zqhW := IntsAre.length zqhI); (replace zql1 := allLt_of zql1); (try simp only [AllLt, and_true] at zql1))
  k_with "!subscriptTail Name Slice ref ref" => k_extra "!revslice"
  k_with "!subscriptTail Subscript Slice ref ref" => k_extra "!revslice"
  k_with "!subscriptTail Subscript Constant ref int" => k_extra "!item"
  k_with "!compareOp In int ref" => (k_here; k_dflt (refine' in_list_ints ?hl ?hi ?_; (case hl => exact L_isList (by k_asm) (by k_mem)); (case hi => assumption); k_whole))
  k_with "!exec Assign cons ListComp" => (k_here; (rename Fr _ _ _ _ => zqlF9); k_dflt (refine comp_assign zqlF9 (by rfl) (by with_unfolding_all rfl) (by with_unfolding_all rfl) (by decide) (by rfl) (by decide) (by rfl) (by rfl) (by rfl) ?_))
  k_with "!eval ListComp" => (k_here; (rename Fr _ _ _ _ => zqlF9); k_dflt (refine comp_expr zqlF9 (by with_unfolding_all rfl) (by decide) (by rfl) (by decide) (by rfl) ?_))
  trivial
theorem enterLam {w : World} {f : Addr} {vs : List Value} {n : Nat} {FP : List (Addr × Obj)} {Post : Value → Heap → Prop} {h : Heap}
    {name qual : Str} {params : Arguments} {body : Expr} {scope : Scope} {cl : List (Str × Addr)} {pm ctv : Value} {c' : Addr} {oc : Obj} {ws : Array Value} {tq : Tok} {binds : List (Str × Value)}
    (ho : (f, kla_obj name qual params body scope cl pm c' ctv) ∈ FP) (hc : (c', oc) ∈ FP) (hcd : oc.data = .fields ws) (hcv : ws[1]? = some (.str qual tq))
    (hbind : bindArgs (kla_fn name qual params body scope cl pm (.ref c') ctv) ⟨vs, []⟩ = pure binds) (hloc : ∀ y ∈ binds, scope.names.lookup y.1 = some .local)
    (hco : scope.isCoroutine = false) (hgen : scope.isGenerator = false) (hk : scope.kind = .function) (hcell : ∀ x ∈ scope.names, x.2 ≠ .cell)
    (walk : ∀ (dp un : Nat) (gd : Option (List Code)) (env : Env) (outer : List Env) (A₀ : Around) (base g : Heap) (L' : Addr) (h₁ : Heap) (p : Program) (loose : List Str) (mean : ExcName → Option Value) (mg mb : Str → Option Value)
      (gs : Array GenState) (ds : Drawn) (tk : Nat) (os : OsState),
      Below A₀ base (env :: outer) g → (hd.heap_1 w.params).In g → Top p loose mean mg mb g → Fr g L' h₁ (fun y => binds.reverse.lookup y) → News g L' h₁ FP → (∀ p ∈ FP, p.1 < L') → dp + n < 901 → un + 16 * n < 9016 →
      (∀ b o, b ∉ FP.map (·.1) → h.get? b = some o → g.get? b = some o) →
      wpAny (model Prg w) (AA (dp + 1) (un + 3) gd (envX qual scope L' f (.ref c') cl) (env :: outer)) (eval body (envX qual scope L' f (.ref c') cl))
        (fun v s' => Ret g L' gs ds os Post v s') (fun _ _ => False) ⟨h₁, gs, ds, tk, os⟩) :
    Spec w (.ref f) vs n FP Post h := by
  intro dp un gd env outer A₀ base h₀ L m p loose mean mg mb gs ds tk os Q E B F X T hf hke N hdp hun hQ
  obtain ⟨FG, BG, st, _⟩ := groundX (R := fun _ _ => True) (s := ⟨h, gs, ds, tk, os⟩) (A := AA dp un gd env outer) B F N rfl hf hke
  refine wpAny_call (kla_callFunE (by show dp < 1000; omega) (N _ ho).1 rfl hco hgen rfl ⟨c', oc, ws, tq, rfl, (N _ hc).1, hcd, hcv⟩ ?_)
  rw [hbind]
  refine wpAny_pure (wpAny_newFunctionEnv hcell hloc (fun h₁ hns hsb => ⟨((T.nolimit).keeps F.keep).fresh _ hsb, ?_⟩) hk)
  have hk₁ : ∀ b o, h.get? b = some o → h₁.get? b = some o := fun b o e => hsb.extBut b o (Nat.ne_of_lt (Heap.lt_size e)) (Heap.get?_push_of_some _ e)
  refine kla_codeExpr (wpAny_mono (walk dp un gd env outer (AA dp un gd env outer) base (hideAll h (FP.map (·.1))) h.objs.size h₁ p loose mean mg mb gs ds (tk + binds.length) os
    BG (X.keeps st) (T.keeps st) ⟨hns, fun b o e => hk₁ b o (of_hideAll _ e), Nat.le_of_eq (hideAll_size _ _)⟩
    (fun p hp => ⟨hk₁ _ _ (N p hp).1, Nat.ne_of_lt (Heap.lt_size (N p hp).1), hideAll_none _ (List.mem_map_of_mem hp)⟩) (fun p hp => Heap.lt_size (N p hp).1) (by omega) (by omega)
    (fun b o hb e => hideAll_get _ e hb)) (fun v s' hl => ?_) fun _ _ y => y.elim)
  obtain ⟨h', tk', m', rfl, F', P⟩ := hl
  refine hQ _ h' tk' ?_ (fun b o hb e => F'.keep b o (hideAll_get _ e hb)) P
  obtain ⟨oL, es, ep, hL, r⟩ := FG.ns
  exact ⟨⟨oL, es, ep, F'.keep L oL hL, r⟩, fun b o e => F'.keep b o (st b o e), F.above⟩

def drops {α : Type} : List Bool → List α → List α
  | true :: bs, a :: l => a :: drops bs l
  | false :: bs, _ :: l => drops bs l
  | _, l => l
theorem drops_sub {α : Type} : ∀ (bs : List Bool) (l : List α), ∀ q ∈ drops bs l, q ∈ l
  | [], _, _, h => h
  | _ :: _, [], _, h => by cases ‹Bool› <;> exact h
  | true :: bs, a :: l, q, h => by
    rcases List.mem_cons.mp (show q ∈ a :: drops bs l from h) with rfl | h
    · exact .head _
    · exact .tail _ (drops_sub bs l q h)
  | false :: bs, a :: l, q, h => .tail _ (drops_sub bs l q h)
end

section
example : True := by
  w_top off
  k_with_none
  k_with "!c1" => first | assumption | exact And.right (by k_extra "!c2") | fail
  k_with "!c2" => first | assumption | exact And.right (by k_extra "!c3") | fail
  k_with "!c3" => first | assumption | exact And.right (by k_extra "!c4") | fail
  k_with "!c4" => first | assumption | exact And.right (by k_extra "!c5") | fail
  k_with "!c5" => first | assumption | exact And.right (by k_extra "!c6") | fail
  k_with "!c6" => first | assumption | exact And.right (by k_extra "!c7") | fail
  k_with "!c7" => first | assumption | exact And.right (by k_extra "!c8") | fail
  k_with "!c8" => assumption
  k_with "!lt9" => with_reducible first | exact And.left (by k_extra "!c1") | exact And.right (by k_extra "!c1") | fail
  k_with "!omega" => with_reducible first | exact lt_dp (by assumption) (by with_unfolding_all exact rfl) | exact lt_un (by assumption) (by with_unfolding_all exact rfl) | assumption | exact Ne.symm (by assumption) | exact Nat.ne_of_lt (by assumption) | exact Nat.ne_of_gt (by assumption) | exact le_big (by assumption) (by with_unfolding_all exact rfl) | exact le_big2 (by assumption) (by with_unfolding_all exact rfl) | exact lt_big (by assumption) (by with_unfolding_all exact rfl) | exact Nat.le_of_ble_eq_true (by with_unfolding_all exact rfl) | exact Nat.ne_of_gt (lt_s (by assumption)) | exact Nat.ne_of_gt (lt_s (lt_s (by assumption))) | exact Nat.ne_of_gt (lt_s (lt_s (lt_s (by assumption)))) | exact Nat.ne_of_lt (by k_extra "!lt9") | exact Nat.ne_of_gt (by k_extra "!lt9") | (refine Nat.lt_of_lt_of_le ?_ (Nat.le_refl _); k_extra "!lt9") | fail
  k_with "!k_all" => first | exact ne_of_allLt (by assumption) | exact ne_of_allLt (And.right (by assumption)) | exact ne_of_allLt (And.right (And.right (by assumption)))
  k_with "!sub" => first | exact fun _ h => h | (with_reducible assumption) | exact sub_app (by assumption) | exact sub_app (fun _ h => h) | exact (fun _ h => List.mem_append_right _ h) | (refine sub_cc ?_; k_extra "!sub") | (refine sub_tl ?_; k_extra "!sub")
  k_with "!k_handed" => with_reducible assumption
  k_with "!k_all" => first | exact ne_of_allNe (by assumption) | exact ne_of_allNe (And.right (by assumption)) | exact ne_of_allNe (And.right (And.right (by assumption)))
  k_with "!k_all" => first | exact ne_of_lts2 (by assumption) | (with_reducible assumption)
  k_with "!k_mem" => assumption
  k_with "!compareOp In int ref" => (k_here; k_dflt (refine' in_list_ints ?hl ?hi ?_; (case hl => exact L_isList (by k_asm) (by k_mem)); (case hi => assumption); k_whole))
  k_with "!eval Name" => (k_here; kc_free; k_dflt (refine' nameX_F ?N ?c ?m ?d ?_ ?a ?b; (case a => rfl); (case b => rfl); (case N => k_asm); (case c => rfl); (case m => k_mem); (case d => k_asm); k_whole))
  trivial
theorem lamB {w : World} {qual : Str} {pa p1 p2 p3 : Pos} {f ca c' bl : Addr} {pm ctv : Value} {oc o : Obj} {ws : Array Value} {tq : Tok} {FP : List (Addr × Obj)} {bs : List Value} {nb : Nat} {bg : List Nat} {M : Nat}
    (ho : (f, kla_obj (Str.ofString "<lambda>") qual { posonlyargs := [], args := [{ arg := Str.ofString "one", annotation := none, pos := pa }], vararg := none, kwonlyargs := [], kw_defaults := [], kwarg := none, defaults := [] }
      (.Compare (.Name (Str.ofString "one") p1) [.In] [.Name (Str.ofString "begins") p2] p3) { kind := .function, names := [(Str.ofString "one", .local), (Str.ofString "begins", .free)], isGenerator := false, isCoroutine := false }
      [(Str.ofString "begins", ca)] pm c' ctv) ∈ FP) (hc : (c', oc) ∈ FP) (hcd : oc.data = .fields ws) (hcv : ws[1]? = some (.str qual tq)) (hca : (ca, o) ∈ FP) (hod : o.data = .cell (some (.ref bl)))
    (hbl : (bl, listOf bs.toArray nb) ∈ FP) (hbs : IntsAre bs (natInts bg)) (hbz : bs.length < 500) : Cb w f 3 FP M (fun c => bg.contains c) := by
  refine ⟨⟨_, _, _, _, ho⟩, fun j t h hj => ?_⟩
  refine enterLam (binds := [(Str.ofString "one", .int j t)]) ho hc hcd hcv rfl (locs rfl) rfl rfl rfl (by decide) ?_
  intro dp un gd env outer A₀ base g L' h₁ p' loose mean mg mb gs ds tk os B X T F N lt hdp hun kp
  k_steps
  rw [any_natInts]
  exact ⟨_, _, _, rfl, by assumption, rfl, led_of N (by walk_at "sub")⟩

theorem lamS {w : World} {qual : Str} {pa p1 p2 p3 : Pos} {f ca c' bl : Addr} {pm ctv : Value} {oc o : Obj} {ws : Array Value} {tq : Tok} {FP : List (Addr × Obj)} {bs : List Value} {nb : Nat} {bg : List Nat} {M : Nat}
    (ho : (f, kla_obj (Str.ofString "<lambda>") qual { posonlyargs := [], args := [{ arg := Str.ofString "one", annotation := none, pos := pa }], vararg := none, kwonlyargs := [], kw_defaults := [], kwarg := none, defaults := [] }
      (.Compare (.Name (Str.ofString "one") p1) [.In] [.Name (Str.ofString "some") p2] p3) { kind := .function, names := [(Str.ofString "one", .local), (Str.ofString "some", .free)], isGenerator := false, isCoroutine := false }
      [(Str.ofString "some", ca)] pm c' ctv) ∈ FP) (hc : (c', oc) ∈ FP) (hcd : oc.data = .fields ws) (hcv : ws[1]? = some (.str qual tq)) (hca : (ca, o) ∈ FP) (hod : o.data = .cell (some (.ref bl)))
    (hbl : (bl, listOf bs.toArray nb) ∈ FP) (hbs : IntsAre bs (natInts bg)) (hbz : bs.length < 500) : Cb w f 3 FP M (fun c => bg.contains c) := by
  refine ⟨⟨_, _, _, _, ho⟩, fun j t h hj => ?_⟩
  refine enterLam (binds := [(Str.ofString "one", .int j t)]) ho hc hcd hcv rfl (locs rfl) rfl rfl rfl (by decide) ?_
  intro dp un gd env outer A₀ base g L' h₁ p' loose mean mg mb gs ds tk os B X T F N lt hdp hun kp
  k_steps
  rw [any_natInts]
  exact ⟨_, _, _, rfl, by assumption, rfl, led_of N (by walk_at "sub")⟩
end
section
example : True := by
  w_top off
  k_with_none
  k_with "!c1" => first | assumption | exact And.right (by k_extra "!c2") | fail
  k_with "!c2" => first | assumption | exact And.right (by k_extra "!c3") | fail
  k_with "!c3" => first | assumption | exact And.right (by k_extra "!c4") | fail
  k_with "!c4" => first | assumption | exact And.right (by k_extra "!c5") | fail
  k_with "!c5" => first | assumption | exact And.right (by k_extra "!c6") | fail
  k_with "!c6" => first | assumption | exact And.right (by k_extra "!c7") | fail
  k_with "!c7" => first | assumption | exact And.right (by k_extra "!c8") | fail
  k_with "!c8" => assumption
  k_with "!lt9" => with_reducible first | exact And.left (by k_extra "!c1") | exact And.right (by k_extra "!c1") | fail
  k_with "!omega" => with_reducible first | exact lt_dp (by assumption) (by with_unfolding_all exact rfl) | exact lt_un (by assumption) (by with_unfolding_all exact rfl) | assumption | exact Ne.symm (by assumption) | exact Nat.ne_of_lt (by assumption) | exact Nat.ne_of_gt (by assumption) | exact le_big (by assumption) (by with_unfolding_all exact rfl) | exact le_big2 (by assumption) (by with_unfolding_all exact rfl) | exact lt_big (by assumption) (by with_unfolding_all exact rfl) | exact Nat.le_of_ble_eq_true (by with_unfolding_all exact rfl) | exact Nat.ne_of_gt (lt_s (by assumption)) | exact Nat.ne_of_gt (lt_s (lt_s (by assumption))) | exact Nat.ne_of_gt (lt_s (lt_s (lt_s (by assumption)))) | exact Nat.ne_of_lt (by k_extra "!lt9") | exact Nat.ne_of_gt (by k_extra "!lt9") | (refine Nat.lt_of_lt_of_le ?_ (Nat.le_refl _); k_extra "!lt9") | fail
  k_with "!k_all" => first | exact ne_of_allLt (by assumption) | exact ne_of_allLt (And.right (by assumption)) | exact ne_of_allLt (And.right (And.right (by assumption)))
  k_with "!sub" => first | exact fun _ h => h | (with_reducible assumption) | exact sub_app (by assumption) | exact sub_app (fun _ h => h) | exact (fun _ h => List.mem_append_right _ h) | (refine sub_cc ?_; k_extra "!sub") | (refine sub_tl ?_; k_extra "!sub")
  k_with "!U" => ((case B => assumption); (case F => k_asm); (case X => assumption); (case T => assumption); (case hf => exact rfl); (case hk => exact rfl); (case N => k_asm); (case hs => k_extra "!sub"); (case hdp => ((try dsimp only); omega)); (case hun => ((try dsimp only); omega)); k_whole)
  k_with "!k_handed" => with_reducible assumption
  k_with "!k_all" => first | exact ne_of_allNe (by assumption) | exact ne_of_allNe (And.right (by assumption)) | exact ne_of_allNe (And.right (And.right (by assumption)))
  k_with "!call ref" => k_extra "call ref"
  k_with "!k_all" => first | exact ne_of_lts2 (by assumption) | (with_reducible assumption)
  k_with "!k_mem" => assumption
  k_with "!callWith ref" => (k_here; k_dflt (first | (refine' callWith_K ?k1 ?k2 ?_; (case k1 => k_asm); (case k2 => k_is); k_whole) | (refine' callWith_K0 ?k1 ?k2 ?_; (case k1 => k_in); (case k2 => k_is); k_whole) | (refine' callWith_M0 ?k1 ?k2 ?_; (case k1 => k_meth); (case k2 => k_is); k_whole; try dsimp only [List.nil_append, List.cons_append]) | (refine' callWith_M ?k1 ?k2 ?k3 ?k4 ?_; (case k1 => k_asm); (case k2 => k_asm); (case k3 => k_mem); (case k4 => k_is); k_whole) | (refine' callWith_F ?k1 ?_; (case k1 => exact FnAt.of (by k_asm) (by k_mem)); k_whole)))
  k_with "!revslice" => (k_here; (with_reducible show wpAny _ _ (subscriptTail _ (PySem.Expr.Slice none none (some _) _) (Value.ref _) (Value.ref _)) _ _ _); k_dflt (refine' krv_ints ?F ?N ?l ?k ?i ?_ ?s ?t ?z; (case F => k_asm); (case N => k_asm); (case l => exact L_isList (by k_asm) (by k_mem)); (case k => exact IsPart.int _ _); (case i => assumption); (case s => with_unfolding_all rfl); (case t => (intro _; with_unfolding_all rfl)); (case z => (rw [List.size_toArray, sizeLine_eq]; omega))); intro zqD zqws zqh zqF zqN zql1 zqhI zqhC; (have zqhW := IntsAre.length zqhI); (replace zql1 := allLt_of zql1); (try simp only [AllLt, and_true] at zql1))
  k_with "!subscriptTail Name Slice ref ref" => k_extra "!revslice"
  k_with "!compareOp In int ref" => (k_here; k_dflt (refine' in_list_ints ?hl ?hi ?_; (case hl => exact L_isList (by k_asm) (by k_mem)); (case hi => assumption); k_whole))
  k_with "!exec Assign cons ListComp" => (k_here; (rename Fr _ _ _ _ => zqlF9); k_dflt (refine comp_assign zqlF9 (by rfl) (by with_unfolding_all rfl) (by with_unfolding_all rfl) (by decide) (by rfl) (by decide) (by rfl) (by rfl) (by rfl) ?_))
  k_with "!eval Name" => (k_here; kc_free; k_dflt (refine' nameX_F ?N ?c ?m ?d ?_ ?a ?b; (case a => rfl); (case b => rfl); (case N => k_asm); (case c => rfl); (case m => k_mem); (case d => k_asm); k_whole))
  k_with "!U3" => ((case N => k_asm); (case hs => exact fun _ h => h); (case hsub => k_extra "!sub"); (case B => assumption); (case F => k_asm); (case X => assumption); (case T => assumption); (case hf => exact rfl); (case hk => exact rfl); (case hdp => ((try dsimp only); omega)); (case hun => ((try dsimp only); omega)))
  k_with "!lamB1" => ((case m1 => k_mem); (case m2 => k_mem); (case m3 => assumption); (case m4 => assumption); (case m5 => k_mem); (case m6 => assumption); (case m7 => k_mem))
  k_with "!lamS1" => ((case n1 => k_mem); (case n2 => k_mem); (case n3 => assumption); (case n4 => assumption); (case n5 => k_mem); (case n6 => assumption); (case n7 => k_mem))
  k_with "!exec Return some" => k_extra "exec Return some"
  trivial
def nrQ : Str := (envOfC (Str.ofString "_law_node_right") { kind := .function, names := [], isGenerator := false, isCoroutine := false } 0 368 (.ref 367)).qual ++ Str.ofString "<lambda>"
/-- the code objects of the law's six lambdas, and the table that holds them -/
structure CodeC where
  (c : Addr)
  (o : Obj)
  (vs : Array Value)
  (t : Tok)
structure CodeC.Ok (K : CodeC) : Prop where
  d : K.o.data = .fields K.vs
  v : K.vs[1]? = some (.str nrQ K.t)
structure TabC where
  (k1 k2 k3 k4 k5 k6 : CodeC)
structure TabC.Ok (U : TabC) : Prop where
  (a1 : U.k1.Ok)
  (a2 : U.k2.Ok)
  (a3 : U.k3.Ok)
  (a4 : U.k4.Ok)
  (a5 : U.k5.Ok)
  (a6 : U.k6.Ok)
abbrev TabC.obj (U : TabC) : Obj := tabObj #[rawInt ((240 : Nat) : Int), rawInt ((0 : Nat) : Int), .ref U.k1.c, rawInt ((242 : Nat) : Int), rawInt ((0 : Nat) : Int), .ref U.k2.c, rawInt ((246 : Nat) : Int), rawInt ((0 : Nat) : Int), .ref U.k3.c,
  rawInt ((247 : Nat) : Int), rawInt ((0 : Nat) : Int), .ref U.k4.c, rawInt ((250 : Nat) : Int), rawInt ((0 : Nat) : Int), .ref U.k5.c, rawInt ((251 : Nat) : Int), rawInt ((0 : Nat) : Int), .ref U.k6.c]
def TabC.led (U : TabC) : List (Addr × Obj) := [(365, U.obj), (U.k1.c, U.k1.o), (U.k2.c, U.k2.o), (U.k3.c, U.k3.o), (U.k4.c, U.k4.o), (U.k5.c, U.k5.o), (U.k6.c, U.k6.o)]

theorem tab_fin {g h h' : Heap} {L' : Addr} {FP : List (Addr × Obj)} {c1 c2 c3 c4 c5 c6 d1 d2 dn f5 f6 q1 q2 q3 : Addr} {o1 o2 o3 o4 o5 o6 x1 x2 xn y5 y6 z1 z2 z3 : Obj} {w1 w2 w3 w4 w5 w6 : Array Value} {t1 t2 t3 t4 t5 t6 : Tok}
    (N : News g L' h' ((d1, x1) :: (d2, x2) :: (f6, y6) :: (c6, o6) :: (f5, y5) :: (c5, o5) :: (c4, o4) :: (c3, o3) :: (dn, xn) :: (c2, o2) :: (c1, o1) :: (q1, z1) :: (q2, z2) :: (q3, z3) ::
      (365, tabObj #[rawInt ((240 : Nat) : Int), rawInt ((0 : Nat) : Int), .ref c1, rawInt ((242 : Nat) : Int), rawInt ((0 : Nat) : Int), .ref c2, rawInt ((246 : Nat) : Int), rawInt ((0 : Nat) : Int), .ref c3,
        rawInt ((247 : Nat) : Int), rawInt ((0 : Nat) : Int), .ref c4, rawInt ((250 : Nat) : Int), rawInt ((0 : Nat) : Int), .ref c5, rawInt ((251 : Nat) : Int), rawInt ((0 : Nat) : Int), .ref c6]) :: FP))
    (kp : ∀ b o, b ∉ ((365, tabObj #[]) :: FP).map (·.1) → h.get? b = some o → g.get? b = some o) (lt : ∀ p ∈ ((365, tabObj #[]) :: FP : List (Addr × Obj)), p.1 < L')
    (e1 : o1.data = .fields w1) (e2 : o2.data = .fields w2) (e3 : o3.data = .fields w3) (e4 : o4.data = .fields w4) (e5 : o5.data = .fields w5) (e6 : o6.data = .fields w6)
    (v1 : w1[1]? = some (.str nrQ t1)) (v2 : w2[1]? = some (.str nrQ t2)) (v3 : w3[1]? = some (.str nrQ t3)) (v4 : w4[1]? = some (.str nrQ t4)) (v5 : w5[1]? = some (.str nrQ t5)) (v6 : w6[1]? = some (.str nrQ t6))
    (l1 : @LT.lt Nat instLTNat L' c1) (l2 : @LT.lt Nat instLTNat L' c2) (l3 : @LT.lt Nat instLTNat L' c3) (l4 : @LT.lt Nat instLTNat L' c4) (l5 : @LT.lt Nat instLTNat L' c5) (l6 : @LT.lt Nat instLTNat L' c6) :
    ∃ U : TabC, U.Ok ∧ ∀ q ∈ U.led, h'.get? q.1 = some q.2 ∧ (q.1 = 365 ∨ h.get? q.1 = none) := by
  have fr : ∀ {c : Addr} {o : Obj} {news : List (Addr × Obj)}, News g L' h' news → (c, o) ∈ news → @LT.lt Nat instLTNat L' c → h'.get? c = some o ∧ (c = 365 ∨ h.get? c = none) := fun N' hm hl =>
    ⟨(N' _ hm).1, .inr (fresh_of kp N' hm fun p hp => Nat.ne_of_lt (Nat.lt_trans (lt p hp) hl))⟩
  refine ⟨⟨⟨c1, o1, w1, t1⟩, ⟨c2, o2, w2, t2⟩, ⟨c3, o3, w3, t3⟩, ⟨c4, o4, w4, t4⟩, ⟨c5, o5, w5, t5⟩, ⟨c6, o6, w6, t6⟩⟩, ⟨⟨e1, v1⟩, ⟨e2, v2⟩, ⟨e3, v3⟩, ⟨e4, v4⟩, ⟨e5, v5⟩, ⟨e6, v6⟩⟩, ?_⟩
  intro q hq
  simp only [TabC.led, List.mem_cons, List.not_mem_nil, or_false] at hq
  rcases hq with rfl | rfl | rfl | rfl | rfl | rfl | rfl
  · exact ⟨(N _ (by simp)).1, .inl rfl⟩
  · exact fr N (by simp) l1
  · exact fr N (by simp) l2
  · exact fr N (by simp) l3
  · exact fr N (by simp) l4
  · exact fr N (by simp) l5
  · exact fr N (by simp) l6

theorem nright_first {w : World} {S : Shape} {τ : TreeC} (hS : S.Of τ) (hG : S.Nice) {ρ : RowsC} (hρ : RowsOf w S ρ) {i : Nat} {ti : Tok} (hi : i < S.n) {FP : List (Addr × Obj)} (hs : ∀ q ∈ ρ.led, q ∈ FP) (hsT : ∀ q ∈ τ.led w, q ∈ FP)
    {sl bl : Addr} {ss bs : List Value} {ns nb : Nat} {sm bg : List Nat} (hsl : (sl, listOf ss.toArray ns) ∈ FP) (hss : IntsAre ss (natInts sm)) (hsz : ss.length < 500)
    (hbl : (bl, listOf bs.toArray nb) ∈ FP) (hbs : IntsAre bs (natInts bg)) (hbz : bs.length < 500) (h365 : ∀ p ∈ FP, p.1 ≠ 365) {h : Heap} :
    Spec w (.ref 368) [.ref τ.aT, .ref ρ.D, .int i ti, .ref sl, .ref bl] 18 ((365, tabObj #[]) :: FP) (fun v h' => v = .bool true ∧ (∀ q ∈ FP, h'.get? q.1 = some q.2) ∧ ∃ U : TabC, U.Ok ∧ ∀ q ∈ U.led, h'.get? q.1 = some q.2 ∧ (q.1 = 365 ∨ h.get? q.1 = none)) h := by
  refine enterC (binds := [(Str.ofString "tree", .ref τ.aT), (Str.ofString "rows", .ref ρ.D), (Str.ofString "node", .int i ti), (Str.ofString "some", .ref sl), (Str.ofString "begins", .ref bl)]) (by k_is) (by k_is) (fun s => BindsTo.of_eq rfl) (by rfl) (by decide +kernel) rfl rfl rfl ?_
  intro dp un gd env outer A₀ base g L' h₁ p' loose mean mg mb gs ds tk os cells B X T F N Y lt hdp hun kp
  k_fold
  k_with_none
  k_with "!c1" => first | assumption | exact And.right (by k_extra "!c2") | fail
  k_with "!c2" => first | assumption | exact And.right (by k_extra "!c3") | fail
  k_with "!c3" => first | assumption | exact And.right (by k_extra "!c4") | fail
  k_with "!c4" => first | assumption | exact And.right (by k_extra "!c5") | fail
  k_with "!c5" => first | assumption | exact And.right (by k_extra "!c6") | fail
  k_with "!c6" => first | assumption | exact And.right (by k_extra "!c7") | fail
  k_with "!c7" => first | assumption | exact And.right (by k_extra "!c8") | fail
  k_with "!c8" => assumption
  k_with "!lt9" => with_reducible first | exact And.left (by k_extra "!c1") | exact And.right (by k_extra "!c1") | fail
  k_with "!omega" => with_reducible first | exact lt_dp (by assumption) (by with_unfolding_all exact rfl) | exact lt_un (by assumption) (by with_unfolding_all exact rfl) | assumption | exact Ne.symm (by assumption) | exact Nat.ne_of_lt (by assumption) | exact Nat.ne_of_gt (by assumption) | exact le_big (by assumption) (by with_unfolding_all exact rfl) | exact le_big2 (by assumption) (by with_unfolding_all exact rfl) | exact lt_big (by assumption) (by with_unfolding_all exact rfl) | exact Nat.le_of_ble_eq_true (by with_unfolding_all exact rfl) | exact Nat.ne_of_gt (lt_s (by assumption)) | exact Nat.ne_of_gt (lt_s (lt_s (by assumption))) | exact Nat.ne_of_gt (lt_s (lt_s (lt_s (by assumption)))) | exact Nat.ne_of_lt (by k_extra "!lt9") | exact Nat.ne_of_gt (by k_extra "!lt9") | (refine Nat.lt_of_lt_of_le ?_ (Nat.le_refl _); k_extra "!lt9") | fail
  k_with "!k_all" => first | exact ne_of_allLt (by assumption) | exact ne_of_allLt (And.right (by assumption)) | exact ne_of_allLt (And.right (And.right (by assumption)))
  k_with "!sub" => first | exact fun _ h => h | (with_reducible assumption) | exact sub_app (by assumption) | exact sub_app (fun _ h => h) | exact (fun _ h => List.mem_append_right _ h) | (refine sub_cc ?_; k_extra "!sub") | (refine sub_tl ?_; k_extra "!sub")
  k_with "!U" => ((case B => assumption); (case F => k_asm); (case X => assumption); (case T => assumption); (case hf => exact rfl); (case hk => exact rfl); (case N => k_asm); (case hs => k_extra "!sub"); (case hdp => ((try dsimp only); omega)); (case hun => ((try dsimp only); omega)); k_whole)
  k_with "!k_handed" => with_reducible assumption
  k_with "!k_all" => first | exact ne_of_allNe (by assumption) | exact ne_of_allNe (And.right (by assumption)) | exact ne_of_allNe (And.right (And.right (by assumption)))
  k_with "!call ref" => k_extra "call ref"
  k_with "!k_all" => first | exact ne_of_lts2 (by assumption) | (with_reducible assumption)
  k_with "!k_mem" => assumption
  k_with "!callWith ref" => (k_here; k_dflt (first | (refine' callWith_K ?k1 ?k2 ?_; (case k1 => k_asm); (case k2 => k_is); k_whole) | (refine' callWith_K0 ?k1 ?k2 ?_; (case k1 => k_in); (case k2 => k_is); k_whole) | (refine' callWith_M0 ?k1 ?k2 ?_; (case k1 => k_meth); (case k2 => k_is); k_whole; try dsimp only [List.nil_append, List.cons_append]) | (refine' callWith_M ?k1 ?k2 ?k3 ?k4 ?_; (case k1 => k_asm); (case k2 => k_asm); (case k3 => k_mem); (case k4 => k_is); k_whole) | (refine' callWith_F ?k1 ?_; (case k1 => exact FnAt.of (by k_asm) (by k_mem)); k_whole)))
  k_with "!revslice" => (k_here; (with_reducible show wpAny _ _ (subscriptTail _ (PySem.Expr.Slice none none (some _) _) (Value.ref _) (Value.ref _)) _ _ _); k_dflt (refine' krv_ints ?F ?N ?l ?k ?i ?_ ?s ?t ?z; (case F => k_asm); (case N => k_asm); (case l => exact L_isList (by k_asm) (by k_mem)); (case k => exact IsPart.int _ _); (case i => assumption); (case s => with_unfolding_all rfl); (case t => (intro _; with_unfolding_all rfl)); (case z => (rw [List.size_toArray, sizeLine_eq]; omega))); intro zqD zqws zqh zqF zqN zql1 zqhI zqhC; (have zqhW := IntsAre.length zqhI); (replace zql1 := allLt_of zql1); (try simp only [AllLt, and_true] at zql1))
  k_with "!subscriptTail Name Slice ref ref" => k_extra "!revslice"
  k_with "!compareOp In int ref" => (k_here; k_dflt (refine' in_list_ints ?hl ?hi ?_; (case hl => exact L_isList (by k_asm) (by k_mem)); (case hi => assumption); k_whole))
  k_with "!exec Assign cons ListComp" => (k_here; (rename Fr _ _ _ _ => zqlF9); k_dflt (refine comp_assign zqlF9 (by rfl) (by with_unfolding_all rfl) (by with_unfolding_all rfl) (by decide) (by rfl) (by decide) (by rfl) (by rfl) (by rfl) ?_))
  k_with "!eval Name" => (k_here; kc_free; k_dflt (refine' nameX_F ?N ?c ?m ?d ?_ ?a ?b; (case a => rfl); (case b => rfl); (case N => k_asm); (case c => rfl); (case m => k_mem); (case d => k_asm); k_whole))
  k_with "!U3" => ((case N => k_asm); (case hs => exact fun _ h => h); (case hsub => k_extra "!sub"); (case B => assumption); (case F => k_asm); (case X => assumption); (case T => assumption); (case hf => exact rfl); (case hk => exact rfl); (case hdp => ((try dsimp only); omega)); (case hun => ((try dsimp only); omega)))
  k_with "!lamB1" => ((case m1 => k_mem); (case m2 => k_mem); (case m3 => assumption); (case m4 => assumption); (case m5 => k_mem); (case m6 => assumption); (case m7 => k_mem))
  k_with "!lamS1" => ((case n1 => k_mem); (case n2 => k_mem); (case n3 => assumption); (case n4 => assumption); (case n5 => k_mem); (case n6 => assumption); (case n7 => k_mem))
  k_with "!exec Return some" => k_extra "exec Return some"
  k_cells Y
  simp only [List.cons_append, List.nil_append] at N
  have h36L : @LT.lt Nat instLTNat 365 L' := lt _ (.head _)
  have C : CodeHd g 367 365 := codeHd_of_K X (by kernel_rfl)
  rename_i o1 o2 o3 d1 d2 d3
  have d1b : o1.data = .cell (some (.ref bl)) := d1
  have d2b : o2.data = .cell (some (.ref sl)) := d2
  k_with "call ref" =>
    first
    | (refine' use_new (upwards_spec (FP := FP) hS hρ hi hs hbl hbs hbz) ?B ?F ?X ?T ?hf ?hk ?N ?hs ?hdp ?hun ?_
       walk_at "U"
       intro D' o' h' tk' F' N' ne' nL' ka' hv'
       obtain ⟨us', ed', hv', hU'⟩ := hv'
       subst hv'
       have n5 : @Ne Nat 365 D' := ne_of_allNe ne' (365, _) (by k_mem)
       clear ne' nL')
    | (refine' use_new (upto_spec (b := fun c => bg.contains c) hS hi ?hsub (lamB ?m1 ?m2 ?m3 ?m4 ?m5 ?m6 ?m7 hbs hbz)) ?B ?F ?X ?T ?hf ?hk ?N ?hs ?hdp ?hun ?_
       walk_at "U3"
       walk_at "lamB1"
       intro D' o' h' tk' F' N' ne' nL' ka' hv'
       obtain ⟨us', ed', hv', hU'⟩ := hv'
       subst hv'
       have n5 : @Ne Nat 365 D' := ne_of_allNe ne' (365, _) (by k_mem)
       clear ne' nL')
    | (refine' use_ro (place_spec (p := fun c => sm.contains c) hS hi ?hsub (lamS ?n1 ?n2 ?n3 ?n4 ?n5 ?n6 ?n7 hss hsz)) ?B ?F ?X ?T ?hf ?hk ?N ?hs ?hdp ?hun ?_
       walk_at "U3"
       walk_at "lamS1"
       intro v' h' tk' F' N' ka' hv'
       obtain ⟨t9, hv'⟩ := hv'
       subst hv')
    | (refine' use_ro (lplace_spec (FP := FP) hS hG hρ hi hs hsl hss hsz) ?B ?F ?X ?T ?hf ?hk ?N ?hs ?hdp ?hun ?_
       walk_at "U"
       intro v' h' tk' F' N' ka' hv'
       obtain ⟨t9, hv'⟩ := hv'
       subst hv')
  k_steps
  · rename ((S.place _ _ : Int) ≠ _) => hc9
    exact absurd rfl hc9
  · rename News _ _ _ _ => lN
    have hul := Shape.upTo_len hS (b := fun c => bg.contains c) hi
    have hsm := hS.small
    have hll : ∀ us : List Value, IntsAre us (natInts (S.upTo (fun c => bg.contains c) i)) → us.length = (S.upTo (fun c => bg.contains c) i).length := fun us h => by rw [h.length]; simp [natInts]
    refine src_list_ro (fun k ys => IntsAre ys (natInts ((((S.upTo (fun c => bg.contains c) i).take k).filter (fun c => sm.contains c)).map (S.place (fun c => sm.contains c))))) rfl (by assumption) lN (by first | (with_reducible exact List.mem_cons_self) | (with_reducible exact List.mem_cons_of_mem _ (List.mem_cons_self)) | (with_reducible exact List.mem_cons_of_mem _ (List.mem_cons_of_mem _ (List.mem_cons_self))) | (with_reducible exact List.mem_cons_of_mem _ (List.mem_cons_of_mem _ (List.mem_cons_of_mem _ (List.mem_cons_self)))) | (with_reducible exact List.mem_cons_of_mem _ (List.mem_cons_of_mem _ (List.mem_cons_of_mem _ (List.mem_cons_of_mem _ (List.mem_cons_self))))) | (with_reducible exact List.mem_cons_of_mem _ (List.mem_cons_of_mem _ (List.mem_cons_of_mem _ (List.mem_cons_of_mem _ (List.mem_cons_of_mem _ (List.mem_cons_self)))))) | (with_reducible exact List.mem_cons_of_mem _ (List.mem_cons_of_mem _ (List.mem_cons_of_mem _ (List.mem_cons_of_mem _ (List.mem_cons_of_mem _ (List.mem_cons_of_mem _ (List.mem_cons_self))))))) | (with_reducible exact List.mem_cons_of_mem _ (List.mem_cons_of_mem _ (List.mem_cons_of_mem _ (List.mem_cons_of_mem _ (List.mem_cons_of_mem _ (List.mem_cons_of_mem _ (List.mem_cons_of_mem _ (List.mem_cons_self)))))))) | (with_reducible exact List.mem_cons_of_mem _ (List.mem_cons_of_mem _ (List.mem_cons_of_mem _ (List.mem_cons_of_mem _ (List.mem_cons_of_mem _ (List.mem_cons_of_mem _ (List.mem_cons_of_mem _ (List.mem_cons_of_mem _ (List.mem_cons_self))))))))) | (with_reducible exact List.mem_cons_of_mem _ (List.mem_cons_of_mem _ (List.mem_cons_of_mem _ (List.mem_cons_of_mem _ (List.mem_cons_of_mem _ (List.mem_cons_of_mem _ (List.mem_cons_of_mem _ (List.mem_cons_of_mem _ (List.mem_cons_of_mem _ (List.mem_cons_self))))))))))) ?hsz ⟨.nil⟩ ?turn ?fin
    · rw [hll _ (by assumption)]; omega
    · refine ⟨fun g₂ k ys hk9 hJ v I oI C oC Da m₂ h₂ tk₂ hP hO hm F₂ N₂ off ne => ?_⟩
      obtain ⟨x, tx, hx, rfl⟩ := natInts_get (l := S.upTo (fun c => bg.contains c) i) (by assumption) hP
      have hxn : x < S.n := Shape.upTo_lt hS hi x (List.mem_of_getElem? hx)
      k_with "call ref" =>
        refine' use_ro (lplace_spec (FP := FP) hS hG hρ hxn hs hsl hss hsz) ?B ?F ?X ?T ?hf ?hk ?N ?hs ?hdp ?hun ?_
        walk_at "U"
        intro v' h' tk' F' N' ka' hv'
        obtain ⟨t9, hv'⟩ := hv'
        subst hv'
      k_steps
      · rename (List.any _ _ = true) => ha9
        rename News _ _ _ _ => N₃
        refine ⟨_, _, rfl, by assumption, N₃, ?_⟩
        rw [any_natInts] at ha9
        rw [take_snoc hx, List.filter_append, List.filter_cons, if_pos ha9, List.filter_nil, List.map_append, List.map_cons, List.map_nil, natInts_snoc]
        exact ints_snoc hJ
      · rename (List.any _ _ = false) => ha9
        rename News _ _ _ _ => N₃
        refine ⟨_, _, rfl, by assumption, N₃, ?_⟩
        rw [any_natInts] at ha9
        rw [take_snoc hx, List.filter_append, List.filter_cons, if_neg (by rw [ha9]; simp), List.filter_nil, List.append_nil]
        exact hJ
    · refine ⟨fun g₂ zs hJ => ?_⟩
      rw [hll _ (by assumption), List.take_length] at hJ
      have hzl : zs.length ≤ 200 := by rw [hJ.length]; simp only [natInts, List.length_map]; exact Nat.le_trans (List.length_filter_le _ _) (by omega)
      walk1
      rename (_ ≠ _ ∧ _ ≠ _ ∧ _) => o9
      have n6 : @Ne Nat 365 _ := o9.2.2.2.2.2.2.2.2.2.1
      clear o9
      rename News _ _ _ _ => N9
      have N10 := nsub N9 (drops_sub [true, false, true, false, false, true, false] _)
      simp only [drops, List.append_toArray, List.cons_append, List.nil_append] at N10
      clear N9
      have mark : True := trivial
      replace hJ : IntsAre zs (natInts (S.numbers (fun c => sm.contains c) (fun c => bg.contains c) i)) := hJ
      k_with "exec Return some" =>
        clear mark
        refine Hold.out ?_
      k_with "call ref" =>
        first
        | (refine' use_new (single_spec (p := fun c => sm.contains c) (b := fun c => bg.contains c) hS hi ?hsub (lamS ?n1 ?n2 ?n3 ?n4 ?n5 ?n6 ?n7 hss hsz) (lamB ?m1 ?m2 ?m3 ?m4 ?m5 ?m6 ?m7 hbs hbz)) ?B ?F ?X ?T ?hf ?hk ?N ?hs ?hdp ?hun ?_
           walk_at "U3"
           walk_at "lamS1"
           walk_at "lamB1"
           intro D' o' h' tk' F' N' ne' nL' ka' hv'
           obtain ⟨us', ed', hv', hU'⟩ := hv'
           rw [show natInts (List.take 1 (S.numbers (fun c => sm.contains c) (fun c => bg.contains c) i)) = List.take 1 (natInts (S.numbers (fun c => sm.contains c) (fun c => bg.contains c) i)) from List.map_take] at hU'
           subst hv'
           have n5 : @Ne Nat 365 D' := ne_of_allNe ne' (365, _) (by k_mem)
           clear ne' nL')
        | (refine' use_new (multi_spec (p := fun c => sm.contains c) (b := fun c => bg.contains c) hS hi ?hsub (lamS ?n1 ?n2 ?n3 ?n4 ?n5 ?n6 ?n7 hss hsz) (lamB ?m1 ?m2 ?m3 ?m4 ?m5 ?m6 ?m7 hbs hbz)) ?B ?F ?X ?T ?hf ?hk ?N ?hs ?hdp ?hun ?_
           walk_at "U3"
           walk_at "lamS1"
           walk_at "lamB1"
           intro D' o' h' tk' F' N' ne' nL' ka' hv'
           obtain ⟨us', ed', hv', hU'⟩ := hv'
           rw [show natInts (List.reverse (S.numbers (fun c => sm.contains c) (fun c => bg.contains c) i)) = List.reverse (natInts (S.numbers (fun c => sm.contains c) (fun c => bg.contains c) i)) from List.map_reverse] at hU'
           subst hv'
           have n5 : @Ne Nat 365 D' := ne_of_allNe ne' (365, _) (by k_mem)
           clear ne' nL')
      k_steps
      refine ⟨?_⟩
      rename News _ _ _ _ => N9
      have N10 := nsub N9 (drops_sub [false, false, false, true, false, true] _)
      simp only [drops, List.append_toArray, List.cons_append, List.nil_append] at N10
      clear N9
      k_steps
      rename News _ _ _ _ => N₃
      simp only [List.append_toArray, List.cons_append, List.nil_append] at N₃
      exact ⟨_, _, _, rfl, by assumption, rfl, led_of N₃ (by walk_at "sub"), tab_fin N₃ kp lt (by assumption) (by assumption) (by assumption) (by assumption) (by assumption) (by assumption)
        (by assumption) (by assumption) (by assumption) (by assumption) (by assumption) (by assumption) (by omega) (by omega) (by omega) (by omega) (by omega) (by omega)⟩
end
section
example : True := by
  w_top off
  k_with_none
  k_with "!c1" => first | assumption | exact And.right (by k_extra "!c2") | fail
  k_with "!c2" => first | assumption | exact And.right (by k_extra "!c3") | fail
  k_with "!c3" => first | assumption | exact And.right (by k_extra "!c4") | fail
  k_with "!c4" => first | assumption | exact And.right (by k_extra "!c5") | fail
  k_with "!c5" => first | assumption | exact And.right (by k_extra "!c6") | fail
  k_with "!c6" => first | assumption | exact And.right (by k_extra "!c7") | fail
  k_with "!c7" => first | assumption | exact And.right (by k_extra "!c8") | fail
  k_with "!c8" => assumption
  k_with "!lt9" => with_reducible first | exact And.left (by k_extra "!c1") | exact And.right (by k_extra "!c1") | fail
  k_with "!omega" => with_reducible first | exact lt_dp (by assumption) (by with_unfolding_all exact rfl) | exact lt_un (by assumption) (by with_unfolding_all exact rfl) | assumption | exact Ne.symm (by assumption) | exact Nat.ne_of_lt (by assumption) | exact Nat.ne_of_gt (by assumption) | exact le_big (by assumption) (by with_unfolding_all exact rfl) | exact le_big2 (by assumption) (by with_unfolding_all exact rfl) | exact lt_big (by assumption) (by with_unfolding_all exact rfl) | exact Nat.le_of_ble_eq_true (by with_unfolding_all exact rfl) | exact Nat.ne_of_gt (lt_s (by assumption)) | exact Nat.ne_of_gt (lt_s (lt_s (by assumption))) | exact Nat.ne_of_gt (lt_s (lt_s (lt_s (by assumption)))) | exact Nat.ne_of_lt (by k_extra "!lt9") | exact Nat.ne_of_gt (by k_extra "!lt9") | (refine Nat.lt_of_lt_of_le ?_ (Nat.le_refl _); k_extra "!lt9") | fail
  k_with "!k_all" => first | exact ne_of_allLt (by assumption) | exact ne_of_allLt (And.right (by assumption)) | exact ne_of_allLt (And.right (And.right (by assumption)))
  k_with "!sub" => first | exact fun _ h => h | (with_reducible assumption) | exact sub_app (by assumption) | exact sub_app (fun _ h => h) | exact (fun _ h => List.mem_append_right _ h) | (refine sub_cc ?_; k_extra "!sub") | (refine sub_tl ?_; k_extra "!sub")
  k_with "!U" => ((case B => assumption); (case F => k_asm); (case X => assumption); (case T => assumption); (case hf => exact rfl); (case hk => exact rfl); (case N => k_asm); (case hs => k_extra "!sub"); (case hdp => ((try dsimp only); omega)); (case hun => ((try dsimp only); omega)); k_whole)
  k_with "!k_handed" => with_reducible assumption
  k_with "!k_all" => first | exact ne_of_allNe (by assumption) | exact ne_of_allNe (And.right (by assumption)) | exact ne_of_allNe (And.right (And.right (by assumption)))
  k_with "!call ref" => k_extra "call ref"
  k_with "!k_all" => first | exact ne_of_lts2 (by assumption) | (with_reducible assumption)
  k_with "!k_mem" => assumption
  k_with "!callWith ref" => (k_here; k_dflt (first | (refine' callWith_K ?k1 ?k2 ?_; (case k1 => k_asm); (case k2 => k_is); k_whole) | (refine' callWith_K0 ?k1 ?k2 ?_; (case k1 => k_in); (case k2 => k_is); k_whole) | (refine' callWith_M0 ?k1 ?k2 ?_; (case k1 => k_meth); (case k2 => k_is); k_whole; try dsimp only [List.nil_append, List.cons_append]) | (refine' callWith_M ?k1 ?k2 ?k3 ?k4 ?_; (case k1 => k_asm); (case k2 => k_asm); (case k3 => k_mem); (case k4 => k_is); k_whole) | (refine' callWith_F ?k1 ?_; (case k1 => exact FnAt.of (by k_asm) (by k_mem)); k_whole)))
  k_with "!revslice" => (k_here; (with_reducible show wpAny _ _ (subscriptTail _ (PySem.Expr.Slice none none (some _) _) (Value.ref _) (Value.ref _)) _ _ _); k_dflt (refine' krv_ints ?F ?N ?l ?k ?i ?_ ?s ?t ?z; (case F => k_asm); (case N => k_asm); (case l => exact L_isList (by k_asm) (by k_mem)); (case k => exact IsPart.int _ _); (case i => assumption); (case s => with_unfolding_all rfl); (case t => (intro _; with_unfolding_all rfl)); (case z => (rw [List.size_toArray, sizeLine_eq]; omega))); intro zqD zqws zqh zqF zqN zql1 zqhI zqhC; (have zqhW := IntsAre.length zqhI); (replace zql1 := allLt_of zql1); (try simp only [AllLt, and_true] at zql1))
  k_with "!subscriptTail Name Slice ref ref" => k_extra "!revslice"
  k_with "!compareOp In int ref" => (k_here; k_dflt (refine' in_list_ints ?hl ?hi ?_; (case hl => exact L_isList (by k_asm) (by k_mem)); (case hi => assumption); k_whole))
  k_with "!exec Assign cons ListComp" => (k_here; (rename Fr _ _ _ _ => zqlF9); k_dflt (refine comp_assign zqlF9 (by rfl) (by with_unfolding_all rfl) (by with_unfolding_all rfl) (by decide) (by rfl) (by decide) (by rfl) (by rfl) (by rfl) ?_))
  k_with "!eval Name" => (k_here; kc_free; k_dflt (refine' nameX_F ?N ?c ?m ?d ?_ ?a ?b; (case a => rfl); (case b => rfl); (case N => k_asm); (case c => rfl); (case m => k_mem); (case d => k_asm); k_whole))
  k_with "!U3" => ((case N => k_asm); (case hs => exact fun _ h => h); (case hsub => k_extra "!sub"); (case B => assumption); (case F => k_asm); (case X => assumption); (case T => assumption); (case hf => exact rfl); (case hk => exact rfl); (case hdp => ((try dsimp only); omega)); (case hun => ((try dsimp only); omega)))
  k_with "!lamB1" => ((case m1 => k_mem); (case m2 => k_mem); (case m3 => assumption); (case m4 => assumption); (case m5 => k_mem); (case m6 => assumption); (case m7 => k_mem))
  k_with "!lamS1" => ((case n1 => k_mem); (case n2 => k_mem); (case n3 => assumption); (case n4 => assumption); (case n5 => k_mem); (case n6 => assumption); (case n7 => k_mem))
  k_with "!exec Return some" => k_extra "exec Return some"
  trivial
theorem nright_again {w : World} {S : Shape} {τ : TreeC} (hS : S.Of τ) (hG : S.Nice) {ρ : RowsC} (hρ : RowsOf w S ρ) {i : Nat} {ti : Tok} (hi : i < S.n) {FP : List (Addr × Obj)} (hs : ∀ q ∈ ρ.led, q ∈ FP) (hsT : ∀ q ∈ τ.led w, q ∈ FP)
    {sl bl : Addr} {ss bs : List Value} {ns nb : Nat} {sm bg : List Nat} (hsl : (sl, listOf ss.toArray ns) ∈ FP) (hss : IntsAre ss (natInts sm)) (hsz : ss.length < 500)
    (hbl : (bl, listOf bs.toArray nb) ∈ FP) (hbs : IntsAre bs (natInts bg)) (hbz : bs.length < 500) {U : TabC} (hU : U.Ok) (hT : ∀ q ∈ U.led, q ∈ FP) {h : Heap} :
    Spec w (.ref 368) [.ref τ.aT, .ref ρ.D, .int i ti, .ref sl, .ref bl] 18 FP (fun v h' => v = .bool true ∧ ∀ q ∈ FP, h'.get? q.1 = some q.2) h := by
  refine enterC (binds := [(Str.ofString "tree", .ref τ.aT), (Str.ofString "rows", .ref ρ.D), (Str.ofString "node", .int i ti), (Str.ofString "some", .ref sl), (Str.ofString "begins", .ref bl)]) (by k_is) (by k_is) (fun s => BindsTo.of_eq rfl) (by rfl) (by decide +kernel) rfl rfl rfl ?_
  intro dp un gd env outer A₀ base g L' h₁ p' loose mean mg mb gs ds tk os cells B X T F N Y lt hdp hun kp
  k_fold
  k_with_none
  k_with "!c1" => first | assumption | exact And.right (by k_extra "!c2") | fail
  k_with "!c2" => first | assumption | exact And.right (by k_extra "!c3") | fail
  k_with "!c3" => first | assumption | exact And.right (by k_extra "!c4") | fail
  k_with "!c4" => first | assumption | exact And.right (by k_extra "!c5") | fail
  k_with "!c5" => first | assumption | exact And.right (by k_extra "!c6") | fail
  k_with "!c6" => first | assumption | exact And.right (by k_extra "!c7") | fail
  k_with "!c7" => first | assumption | exact And.right (by k_extra "!c8") | fail
  k_with "!c8" => assumption
  k_with "!lt9" => with_reducible first | exact And.left (by k_extra "!c1") | exact And.right (by k_extra "!c1") | fail
  k_with "!omega" => with_reducible first | exact lt_dp (by assumption) (by with_unfolding_all exact rfl) | exact lt_un (by assumption) (by with_unfolding_all exact rfl) | assumption | exact Ne.symm (by assumption) | exact Nat.ne_of_lt (by assumption) | exact Nat.ne_of_gt (by assumption) | exact le_big (by assumption) (by with_unfolding_all exact rfl) | exact le_big2 (by assumption) (by with_unfolding_all exact rfl) | exact lt_big (by assumption) (by with_unfolding_all exact rfl) | exact Nat.le_of_ble_eq_true (by with_unfolding_all exact rfl) | exact Nat.ne_of_gt (lt_s (by assumption)) | exact Nat.ne_of_gt (lt_s (lt_s (by assumption))) | exact Nat.ne_of_gt (lt_s (lt_s (lt_s (by assumption)))) | exact Nat.ne_of_lt (by k_extra "!lt9") | exact Nat.ne_of_gt (by k_extra "!lt9") | (refine Nat.lt_of_lt_of_le ?_ (Nat.le_refl _); k_extra "!lt9") | fail
  k_with "!k_all" => first | exact ne_of_allLt (by assumption) | exact ne_of_allLt (And.right (by assumption)) | exact ne_of_allLt (And.right (And.right (by assumption)))
  k_with "!sub" => first | exact fun _ h => h | (with_reducible assumption) | exact sub_app (by assumption) | exact sub_app (fun _ h => h) | exact (fun _ h => List.mem_append_right _ h) | (refine sub_cc ?_; k_extra "!sub") | (refine sub_tl ?_; k_extra "!sub")
  k_with "!U" => ((case B => assumption); (case F => k_asm); (case X => assumption); (case T => assumption); (case hf => exact rfl); (case hk => exact rfl); (case N => k_asm); (case hs => k_extra "!sub"); (case hdp => ((try dsimp only); omega)); (case hun => ((try dsimp only); omega)); k_whole)
  k_with "!k_handed" => with_reducible assumption
  k_with "!k_all" => first | exact ne_of_allNe (by assumption) | exact ne_of_allNe (And.right (by assumption)) | exact ne_of_allNe (And.right (And.right (by assumption)))
  k_with "!call ref" => k_extra "call ref"
  k_with "!k_all" => first | exact ne_of_lts2 (by assumption) | (with_reducible assumption)
  k_with "!k_mem" => assumption
  k_with "!callWith ref" => (k_here; k_dflt (first | (refine' callWith_K ?k1 ?k2 ?_; (case k1 => k_asm); (case k2 => k_is); k_whole) | (refine' callWith_K0 ?k1 ?k2 ?_; (case k1 => k_in); (case k2 => k_is); k_whole) | (refine' callWith_M0 ?k1 ?k2 ?_; (case k1 => k_meth); (case k2 => k_is); k_whole; try dsimp only [List.nil_append, List.cons_append]) | (refine' callWith_M ?k1 ?k2 ?k3 ?k4 ?_; (case k1 => k_asm); (case k2 => k_asm); (case k3 => k_mem); (case k4 => k_is); k_whole) | (refine' callWith_F ?k1 ?_; (case k1 => exact FnAt.of (by k_asm) (by k_mem)); k_whole)))
  k_with "!revslice" => (k_here; (with_reducible show wpAny _ _ (subscriptTail _ (PySem.Expr.Slice none none (some _) _) (Value.ref _) (Value.ref _)) _ _ _); k_dflt (refine' krv_ints ?F ?N ?l ?k ?i ?_ ?s ?t ?z; (case F => k_asm); (case N => k_asm); (case l => exact L_isList (by k_asm) (by k_mem)); (case k => exact IsPart.int _ _); (case i => assumption); (case s => with_unfolding_all rfl); (case t => (intro _; with_unfolding_all rfl)); (case z => (rw [List.size_toArray, sizeLine_eq]; omega))); intro zqD zqws zqh zqF zqN zql1 zqhI zqhC; (have zqhW := IntsAre.length zqhI); (replace zql1 := allLt_of zql1); (try simp only [AllLt, and_true] at zql1))
  k_with "!subscriptTail Name Slice ref ref" => k_extra "!revslice"
  k_with "!compareOp In int ref" => (k_here; k_dflt (refine' in_list_ints ?hl ?hi ?_; (case hl => exact L_isList (by k_asm) (by k_mem)); (case hi => assumption); k_whole))
  k_with "!exec Assign cons ListComp" => (k_here; (rename Fr _ _ _ _ => zqlF9); k_dflt (refine comp_assign zqlF9 (by rfl) (by with_unfolding_all rfl) (by with_unfolding_all rfl) (by decide) (by rfl) (by decide) (by rfl) (by rfl) (by rfl) ?_))
  k_with "!eval Name" => (k_here; kc_free; k_dflt (refine' nameX_F ?N ?c ?m ?d ?_ ?a ?b; (case a => rfl); (case b => rfl); (case N => k_asm); (case c => rfl); (case m => k_mem); (case d => k_asm); k_whole))
  k_with "!U3" => ((case N => k_asm); (case hs => exact fun _ h => h); (case hsub => k_extra "!sub"); (case B => assumption); (case F => k_asm); (case X => assumption); (case T => assumption); (case hf => exact rfl); (case hk => exact rfl); (case hdp => ((try dsimp only); omega)); (case hun => ((try dsimp only); omega)))
  k_with "!lamB1" => ((case m1 => k_mem); (case m2 => k_mem); (case m3 => assumption); (case m4 => assumption); (case m5 => k_mem); (case m6 => assumption); (case m7 => k_mem))
  k_with "!lamS1" => ((case n1 => k_mem); (case n2 => k_mem); (case n3 => assumption); (case n4 => assumption); (case n5 => k_mem); (case n6 => assumption); (case n7 => k_mem))
  k_with "!exec Return some" => k_extra "exec Return some"
  k_cells Y
  simp only [List.cons_append, List.nil_append] at N
  have hT0 : (365, U.obj) ∈ FP := hT _ (by simp [TabC.led])
  have hTc1 : (U.k1.c, U.k1.o) ∈ FP := hT _ (by simp [TabC.led])
  have hTd1 := hU.a1.d
  have hTv1 := hU.a1.v
  have hTc2 : (U.k2.c, U.k2.o) ∈ FP := hT _ (by simp [TabC.led])
  have hTd2 := hU.a2.d
  have hTv2 := hU.a2.v
  have hTc3 : (U.k3.c, U.k3.o) ∈ FP := hT _ (by simp [TabC.led])
  have hTd3 := hU.a3.d
  have hTv3 := hU.a3.v
  have hTc4 : (U.k4.c, U.k4.o) ∈ FP := hT _ (by simp [TabC.led])
  have hTd4 := hU.a4.d
  have hTv4 := hU.a4.v
  have hTc5 : (U.k5.c, U.k5.o) ∈ FP := hT _ (by simp [TabC.led])
  have hTd5 := hU.a5.d
  have hTv5 := hU.a5.v
  have hTc6 : (U.k6.c, U.k6.o) ∈ FP := hT _ (by simp [TabC.led])
  have hTd6 := hU.a6.d
  have hTv6 := hU.a6.v
  have C : CodeHd g 367 365 := codeHd_of_K X (by kernel_rfl)
  rename_i o1 o2 o3 d1 d2 d3
  have d1b : o1.data = .cell (some (.ref bl)) := d1
  have d2b : o2.data = .cell (some (.ref sl)) := d2
  k_with "call ref" =>
    first
    | (refine' use_new (upwards_spec (FP := FP) hS hρ hi hs hbl hbs hbz) ?B ?F ?X ?T ?hf ?hk ?N ?hs ?hdp ?hun ?_
       walk_at "U"
       intro D' o' h' tk' F' N' ne' nL' ka' hv'
       obtain ⟨us', ed', hv', hU'⟩ := hv'
       subst hv'
       skip
       clear ne' nL')
    | (refine' use_new (upto_spec (b := fun c => bg.contains c) hS hi ?hsub (lamB ?m1 ?m2 ?m3 ?m4 ?m5 ?m6 ?m7 hbs hbz)) ?B ?F ?X ?T ?hf ?hk ?N ?hs ?hdp ?hun ?_
       walk_at "U3"
       walk_at "lamB1"
       intro D' o' h' tk' F' N' ne' nL' ka' hv'
       obtain ⟨us', ed', hv', hU'⟩ := hv'
       subst hv'
       skip
       clear ne' nL')
    | (refine' use_ro (place_spec (p := fun c => sm.contains c) hS hi ?hsub (lamS ?n1 ?n2 ?n3 ?n4 ?n5 ?n6 ?n7 hss hsz)) ?B ?F ?X ?T ?hf ?hk ?N ?hs ?hdp ?hun ?_
       walk_at "U3"
       walk_at "lamS1"
       intro v' h' tk' F' N' ka' hv'
       obtain ⟨t9, hv'⟩ := hv'
       subst hv')
    | (refine' use_ro (lplace_spec (FP := FP) hS hG hρ hi hs hsl hss hsz) ?B ?F ?X ?T ?hf ?hk ?N ?hs ?hdp ?hun ?_
       walk_at "U"
       intro v' h' tk' F' N' ka' hv'
       obtain ⟨t9, hv'⟩ := hv'
       subst hv')
  k_steps
  · rename ((S.place _ _ : Int) ≠ _) => hc9
    exact absurd rfl hc9
  · rename News _ _ _ _ => lN
    have hul := Shape.upTo_len hS (b := fun c => bg.contains c) hi
    have hsm := hS.small
    have hll : ∀ us : List Value, IntsAre us (natInts (S.upTo (fun c => bg.contains c) i)) → us.length = (S.upTo (fun c => bg.contains c) i).length := fun us h => by rw [h.length]; simp [natInts]
    refine src_list_ro (fun k ys => IntsAre ys (natInts ((((S.upTo (fun c => bg.contains c) i).take k).filter (fun c => sm.contains c)).map (S.place (fun c => sm.contains c))))) rfl (by assumption) lN (by first | (with_reducible exact List.mem_cons_self) | (with_reducible exact List.mem_cons_of_mem _ (List.mem_cons_self)) | (with_reducible exact List.mem_cons_of_mem _ (List.mem_cons_of_mem _ (List.mem_cons_self))) | (with_reducible exact List.mem_cons_of_mem _ (List.mem_cons_of_mem _ (List.mem_cons_of_mem _ (List.mem_cons_self)))) | (with_reducible exact List.mem_cons_of_mem _ (List.mem_cons_of_mem _ (List.mem_cons_of_mem _ (List.mem_cons_of_mem _ (List.mem_cons_self))))) | (with_reducible exact List.mem_cons_of_mem _ (List.mem_cons_of_mem _ (List.mem_cons_of_mem _ (List.mem_cons_of_mem _ (List.mem_cons_of_mem _ (List.mem_cons_self)))))) | (with_reducible exact List.mem_cons_of_mem _ (List.mem_cons_of_mem _ (List.mem_cons_of_mem _ (List.mem_cons_of_mem _ (List.mem_cons_of_mem _ (List.mem_cons_of_mem _ (List.mem_cons_self))))))) | (with_reducible exact List.mem_cons_of_mem _ (List.mem_cons_of_mem _ (List.mem_cons_of_mem _ (List.mem_cons_of_mem _ (List.mem_cons_of_mem _ (List.mem_cons_of_mem _ (List.mem_cons_of_mem _ (List.mem_cons_self)))))))) | (with_reducible exact List.mem_cons_of_mem _ (List.mem_cons_of_mem _ (List.mem_cons_of_mem _ (List.mem_cons_of_mem _ (List.mem_cons_of_mem _ (List.mem_cons_of_mem _ (List.mem_cons_of_mem _ (List.mem_cons_of_mem _ (List.mem_cons_self))))))))) | (with_reducible exact List.mem_cons_of_mem _ (List.mem_cons_of_mem _ (List.mem_cons_of_mem _ (List.mem_cons_of_mem _ (List.mem_cons_of_mem _ (List.mem_cons_of_mem _ (List.mem_cons_of_mem _ (List.mem_cons_of_mem _ (List.mem_cons_of_mem _ (List.mem_cons_self))))))))))) ?hsz ⟨.nil⟩ ?turn ?fin
    · rw [hll _ (by assumption)]; omega
    · refine ⟨fun g₂ k ys hk9 hJ v I oI C oC Da m₂ h₂ tk₂ hP hO hm F₂ N₂ off ne => ?_⟩
      obtain ⟨x, tx, hx, rfl⟩ := natInts_get (l := S.upTo (fun c => bg.contains c) i) (by assumption) hP
      have hxn : x < S.n := Shape.upTo_lt hS hi x (List.mem_of_getElem? hx)
      k_with "call ref" =>
        refine' use_ro (lplace_spec (FP := FP) hS hG hρ hxn hs hsl hss hsz) ?B ?F ?X ?T ?hf ?hk ?N ?hs ?hdp ?hun ?_
        walk_at "U"
        intro v' h' tk' F' N' ka' hv'
        obtain ⟨t9, hv'⟩ := hv'
        subst hv'
      k_steps
      · rename (List.any _ _ = true) => ha9
        rename News _ _ _ _ => N₃
        refine ⟨_, _, rfl, by assumption, N₃, ?_⟩
        rw [any_natInts] at ha9
        rw [take_snoc hx, List.filter_append, List.filter_cons, if_pos ha9, List.filter_nil, List.map_append, List.map_cons, List.map_nil, natInts_snoc]
        exact ints_snoc hJ
      · rename (List.any _ _ = false) => ha9
        rename News _ _ _ _ => N₃
        refine ⟨_, _, rfl, by assumption, N₃, ?_⟩
        rw [any_natInts] at ha9
        rw [take_snoc hx, List.filter_append, List.filter_cons, if_neg (by rw [ha9]; simp), List.filter_nil, List.append_nil]
        exact hJ
    · refine ⟨fun g₂ zs hJ => ?_⟩
      rw [hll _ (by assumption), List.take_length] at hJ
      have hzl : zs.length ≤ 200 := by rw [hJ.length]; simp only [natInts, List.length_map]; exact Nat.le_trans (List.length_filter_le _ _) (by omega)
      replace hJ : IntsAre zs (natInts (S.numbers (fun c => sm.contains c) (fun c => bg.contains c) i)) := hJ
      k_with "call ref" =>
        first
        | (refine' use_new (single_spec (p := fun c => sm.contains c) (b := fun c => bg.contains c) hS hi ?hsub (lamS ?n1 ?n2 ?n3 ?n4 ?n5 ?n6 ?n7 hss hsz) (lamB ?m1 ?m2 ?m3 ?m4 ?m5 ?m6 ?m7 hbs hbz)) ?B ?F ?X ?T ?hf ?hk ?N ?hs ?hdp ?hun ?_
           walk_at "U3"
           walk_at "lamS1"
           walk_at "lamB1"
           intro D' o' h' tk' F' N' ne' nL' ka' hv'
           obtain ⟨us', ed', hv', hU'⟩ := hv'
           rw [show natInts (List.take 1 (S.numbers (fun c => sm.contains c) (fun c => bg.contains c) i)) = List.take 1 (natInts (S.numbers (fun c => sm.contains c) (fun c => bg.contains c) i)) from List.map_take] at hU'
           subst hv'
           skip
           clear ne' nL')
        | (refine' use_new (multi_spec (p := fun c => sm.contains c) (b := fun c => bg.contains c) hS hi ?hsub (lamS ?n1 ?n2 ?n3 ?n4 ?n5 ?n6 ?n7 hss hsz) (lamB ?m1 ?m2 ?m3 ?m4 ?m5 ?m6 ?m7 hbs hbz)) ?B ?F ?X ?T ?hf ?hk ?N ?hs ?hdp ?hun ?_
           walk_at "U3"
           walk_at "lamS1"
           walk_at "lamB1"
           intro D' o' h' tk' F' N' ne' nL' ka' hv'
           obtain ⟨us', ed', hv', hU'⟩ := hv'
           rw [show natInts (List.reverse (S.numbers (fun c => sm.contains c) (fun c => bg.contains c) i)) = List.reverse (natInts (S.numbers (fun c => sm.contains c) (fun c => bg.contains c) i)) from List.map_reverse] at hU'
           subst hv'
           skip
           clear ne' nL')
      k_steps
      rename News _ _ _ _ => N₃
      exact ⟨_, _, _, rfl, by assumption, rfl, led_of N₃ (by walk_at "sub")⟩
end
section
example : True := by
  w_top off
  k_with_none
  k_with "!c1" => first | assumption | exact And.right (by k_extra "!c2") | fail
  k_with "!c2" => first | assumption | exact And.right (by k_extra "!c3") | fail
  k_with "!c3" => first | assumption | exact And.right (by k_extra "!c4") | fail
  k_with "!c4" => first | assumption | exact And.right (by k_extra "!c5") | fail
  k_with "!c5" => first | assumption | exact And.right (by k_extra "!c6") | fail
  k_with "!c6" => first | assumption | exact And.right (by k_extra "!c7") | fail
  k_with "!c7" => first | assumption | exact And.right (by k_extra "!c8") | fail
  k_with "!c8" => assumption
  k_with "!lt9" => with_reducible first | exact And.left (by k_extra "!c1") | exact And.right (by k_extra "!c1") | fail
  k_with "!omega" => with_reducible first | exact lt_dp (by assumption) (by with_unfolding_all exact rfl) | exact lt_un (by assumption) (by with_unfolding_all exact rfl) | assumption | exact Ne.symm (by assumption) | exact Nat.ne_of_lt (by assumption) | exact Nat.ne_of_gt (by assumption) | exact le_big (by assumption) (by with_unfolding_all exact rfl) | exact le_big2 (by assumption) (by with_unfolding_all exact rfl) | exact lt_big (by assumption) (by with_unfolding_all exact rfl) | exact Nat.le_of_ble_eq_true (by with_unfolding_all exact rfl) | exact Nat.ne_of_gt (lt_s (by assumption)) | exact Nat.ne_of_gt (lt_s (lt_s (by assumption))) | exact Nat.ne_of_gt (lt_s (lt_s (lt_s (by assumption)))) | exact Nat.ne_of_lt (by k_extra "!lt9") | exact Nat.ne_of_gt (by k_extra "!lt9") | (refine Nat.lt_of_lt_of_le ?_ (Nat.le_refl _); k_extra "!lt9") | fail
  k_with "!call builtin:len" => (k_here; (with_reducible show wpAny _ _ (call (Value.builtin "len") [Value.ref _]) _ _ _); k_dflt (refine' L_len ?N ?m ?z ?_; (case N => k_asm); (case m => k_mem); (case z => omega); k_whole))
  k_with "!k_all" => first | exact ne_of_allLt (by assumption) | exact ne_of_allLt (And.right (by assumption)) | exact ne_of_allLt (And.right (And.right (by assumption)))
  k_with "!k_handed" => with_reducible assumption
  k_with "!k_all" => first | exact ne_of_allNe (by assumption) | exact ne_of_allNe (And.right (by assumption)) | exact ne_of_allNe (And.right (And.right (by assumption)))
  k_with "!call ref" => k_extra "call ref"
  k_with "!k_all" => first | exact ne_of_lts2 (by assumption) | (with_reducible assumption)
  k_with "!k_mem" => assumption
  k_with "!callWith ref" => (k_here; k_dflt (first | (refine' callWith_K ?k1 ?k2 ?_; (case k1 => k_asm); (case k2 => k_is); k_whole) | (refine' callWith_K0 ?k1 ?k2 ?_; (case k1 => k_in); (case k2 => k_is); k_whole) | (refine' callWith_M0 ?k1 ?k2 ?_; (case k1 => k_meth); (case k2 => k_is); k_whole; try dsimp only [List.nil_append, List.cons_append]) | (refine' callWith_M ?k1 ?k2 ?k3 ?k4 ?_; (case k1 => k_asm); (case k2 => k_asm); (case k3 => k_mem); (case k4 => k_is); k_whole) | (refine' callWith_F ?k1 ?_; (case k1 => exact FnAt.of (by k_asm) (by k_mem)); k_whole)))
  k_with "!eval Name" => (k_here; kc_free; k_dflt (refine' nameX_F ?N ?c ?m ?d ?_ ?a ?b; (case a => rfl); (case b => rfl); (case N => k_asm); (case c => rfl); (case m => k_mem); (case d => k_asm); k_whole))
  k_with "!exec Return some" => k_extra "exec Return some"
  k_with "!call builtin:len" => (k_here; (with_reducible show wpAny _ _ (call (Value.builtin "len") [Value.ref _]) _ _ _); k_dflt (refine' L_len ?N ?m ?z ?_; (case N => k_asm); (case m => k_mem); (case z => ((simp only [List.length_append, List.length_cons, List.length_nil]); omega)); k_whole))
  trivial
/-- a contract that turns its footprint, and puts down new things -/
theorem use_mut {w : World} {f : Value} {vs : List Value} {n : Nat} {FP news : List (Addr × Obj)} {α : Type} {led : α → List (Addr × Obj)} {R : Value → α → Prop} {dp un : Nat} {gd : Option (List Code)} {env : Env} {outer : List Env} {A₀ : Around} {base h₀ : Heap} {L : Addr} {m : Str → Option Value}
    {p : Program} {loose : List Str} {mean : ExcName → Option Value} {mg mb : Str → Option Value} {s : Shared} {Q E : Value → Shared → Prop} (rest : List (Addr × Obj))
    (S : Spec w f vs n FP (fun v h' => ∃ x, R v x ∧ ∀ q ∈ led x, h'.get? q.1 = some q.2 ∧ (q.1 ∈ FP.map (·.1) ∨ s.heap.get? q.1 = none)) s.heap) (B : Below A₀ base outer h₀) (F : Fr h₀ L s.heap m) (X : (hd.heap_1 w.params).In h₀) (T : Top p loose mean mg mb h₀) (hf : env.frame = some L) (hk : env.scope.kind = .function)
    (N : News h₀ L s.heap news) (hs : ∀ q ∈ FP, q ∈ news) (hr : ∀ q ∈ rest, q ∈ news ∧ q.1 ∉ FP.map (·.1)) (hdp : dp + n < 900) (hun : un + 16 * n < 9000)
    (k : ∀ v x h' tk', Fr h₀ L h' m → News h₀ L h' (led x ++ rest) → (∀ b, s.heap.get? b = none → ∀ p ∈ news, p.1 ≠ b) → R v x → Q v { s with heap := h', toks := tk' }) :
    wpAny (model Prg w) (AA dp un gd env outer) (call f vs) Q E s := by
  obtain ⟨h, gs, ds, tk, os⟩ := s
  refine S dp un gd env outer A₀ base h₀ L m p loose mean mg mb gs ds tk os Q E B F X T hf hk (fun q hq => N q (hs q hq)) hdp hun fun v h' tk' F' kp P => ?_
  obtain ⟨x, hR, hl⟩ := P
  refine k v x h' tk' F' (fun q hq => ?_) (fun b hb p hp e => ?_) hR
  · rcases List.mem_append.mp hq with hq | hq
    · obtain ⟨h1, h2⟩ := hl q hq
      rcases h2 with h2 | h2
      · obtain ⟨p, hp, e⟩ := List.mem_map.mp h2
        have := (N p (hs p hp)).2
        rw [e] at this
        exact ⟨h1, this⟩
      · refine ⟨h1, ?_, ?_⟩
        · intro e
          obtain ⟨oL, _, _, eL, _⟩ := F.ns
          rw [← e, h2] at eL; cases eL
        · cases e : h₀.get? q.1 with
          | none => rfl
          | some o' => have := F.keep _ _ e; rw [h2] at this; cases this
    · obtain ⟨h1, h2⟩ := hr q hq
      exact ⟨kp _ _ h2 (N q h1).1, (N q h1).2⟩
  · have := (N p hp).1
    rw [e, hb] at this; cases this

/-- what a new row of a tree's store is -/
structure NewRow (w : World) (R : RowC) (vk vn vu vl vv vp : Value) : Prop where
  k : R.vk = vk
  n : R.vn = vn
  u : R.vu = vu
  l : R.vl = vl
  v : R.vv = vv
  p : R.vp = vp
  cs : R.cs = []
  as : R.as = []
  ns : R.ns = []
  nodup : ((R.led w).map (·.1)).Nodup

theorem newrow_fin {w : World} {g h h' : Heap} {L' : Addr} {x d c a n aT dT aR : Addr} {t : Tok} {e₁ e₂ e₃ ep : Nat} {rs : List Value} {t1 t2 t3 t4 t5 t6 t7 t8 t9 : Tok} {vk vn vu vl vv vp : Value}
    (N : News g L' h' [(n, listOf #[] 0), (a, listOf #[] 0), (c, listOf #[] 0), (x, instObj 120 d), (d, rowDict w t1 t2 t3 t4 t5 t6 t7 t8 t9 vk vn vu vl vv vp c a n ep), (aT, instObj 309 dT), (dT, treeDict w aR t e₁), (aR, listOf (rs ++ [Value.ref x]).toArray e₃)])
    (kp : ∀ b o, b ∉ [(aT, instObj 309 dT), (dT, treeDict w aR t e₁), (aR, listOf rs.toArray e₂)].map (·.1) → h.get? b = some o → g.get? b = some o)
    (l1 : @LT.lt Nat instLTNat aT d) (l2 : @LT.lt Nat instLTNat dT d) (l3 : @LT.lt Nat instLTNat aR d) (l4 : @LT.lt Nat instLTNat d x) (l5 : @LT.lt Nat instLTNat x c) (l6 : @LT.lt Nat instLTNat c a) (l7 : @LT.lt Nat instLTNat a n) :
    ∃ R : RowC, NewRow w R vk vn vu vl vv vp ∧ (∀ q ∈ R.led w, h'.get? q.1 = some q.2 ∧ h.get? q.1 = none) ∧
      ∀ q ∈ [(aT, instObj 309 dT), (dT, treeDict w aR t e₁), (aR, listOf (rs ++ [Value.ref R.r]).toArray e₃)], h'.get? q.1 = some q.2 ∧ (q.1 ∈ [(aT, instObj 309 dT), (dT, treeDict w aR t e₁), (aR, listOf rs.toArray e₂)].map (·.1) ∨ h.get? q.1 = none) := by
  have fr : ∀ {D : Addr} {o : Obj}, (D, o) ∈ [(n, listOf #[] 0), (a, listOf #[] 0), (c, listOf #[] 0), (x, instObj 120 d), (d, rowDict w t1 t2 t3 t4 t5 t6 t7 t8 t9 vk vn vu vl vv vp c a n ep), (aT, instObj 309 dT), (dT, treeDict w aR t e₁), (aR, listOf (rs ++ [Value.ref x]).toArray e₃)] →
      @LE.le Nat instLENat d D → h.get? D = none := fun hm hl => fresh_of kp N hm fun p hp => by
    simp only [List.mem_cons, List.not_mem_nil, or_false] at hp
    rcases hp with rfl | rfl | rfl
    · exact Nat.ne_of_lt (Nat.lt_of_lt_of_le l1 hl)
    · exact Nat.ne_of_lt (Nat.lt_of_lt_of_le l2 hl)
    · exact Nat.ne_of_lt (Nat.lt_of_lt_of_le l3 hl)
  have d5 : @LT.lt Nat instLTNat d c := Nat.lt_trans l4 l5
  have d6 : @LT.lt Nat instLTNat d a := Nat.lt_trans d5 l6
  have d7 : @LT.lt Nat instLTNat d n := Nat.lt_trans d6 l7
  have x6 : @LT.lt Nat instLTNat x a := Nat.lt_trans l5 l6
  have x7 : @LT.lt Nat instLTNat x n := Nat.lt_trans x6 l7
  have c7 : @LT.lt Nat instLTNat c n := Nat.lt_trans l6 l7
  refine ⟨⟨x, d, c, a, n, t1, t2, t3, t4, t5, t6, t7, t8, t9, ep, 0, 0, 0, vk, vn, vu, vl, vv, vp, [], [], []⟩, ⟨rfl, rfl, rfl, rfl, rfl, rfl, rfl, rfl, rfl, ?nd⟩, ?led, ?old⟩
  case led =>
    intro q hq
    simp only [RowC.led, List.mem_cons, List.not_mem_nil, or_false] at hq
    rcases hq with rfl | rfl | rfl | rfl | rfl
    · exact ⟨(N _ (by simp)).1, (fr (D := x) (o := instObj 120 d) (by simp) (Nat.le_of_lt l4))⟩
    · exact ⟨(N _ (by simp [RowC.dict])).1, (fr (D := d) (o := rowDict w t1 t2 t3 t4 t5 t6 t7 t8 t9 vk vn vu vl vv vp c a n ep) (by simp) (Nat.le_refl _))⟩
    · exact ⟨(N _ (by simp)).1, (fr (D := c) (o := listOf #[] 0) (by simp) (Nat.le_of_lt d5))⟩
    · exact ⟨(N _ (by simp)).1, (fr (D := a) (o := listOf #[] 0) (by simp) (Nat.le_of_lt d6))⟩
    · exact ⟨(N _ (by simp)).1, (fr (D := n) (o := listOf #[] 0) (by simp) (Nat.le_of_lt d7))⟩
  case nd =>
    simp only [RowC.led, List.map_cons, List.map_nil, List.nodup_cons, List.mem_cons, List.not_mem_nil, or_false, not_or, not_false_eq_true, List.nodup_nil, and_true]
    exact ⟨⟨Nat.ne_of_gt l4, Nat.ne_of_lt l5, Nat.ne_of_lt x6, Nat.ne_of_lt x7⟩, ⟨Nat.ne_of_lt d5, Nat.ne_of_lt d6, Nat.ne_of_lt d7⟩, ⟨Nat.ne_of_lt l6, Nat.ne_of_lt c7⟩, Nat.ne_of_lt l7⟩
  case old =>
    intro q hq
    simp only [List.mem_cons, List.not_mem_nil, or_false] at hq
    rcases hq with rfl | rfl | rfl
    all_goals exact ⟨(N _ (by simp)).1, .inl (by simp)⟩

section
example : True := by
  k_with "!k_room" => ((try simp only [depth_under_make, depth_under_kw, depth_in1, depth_deeper, depth_caller]); (show _ < (1000 : Nat)); (try dsimp only); omega)
  trivial
theorem newrow_spec {w : World} {aT dT aR : Addr} {t : Tok} {e₁ e₂ : Nat} {rs : List Value} {k1 k2 k3 k4 k5 : Str} {u1 u2 u3 u4 u5 : Tok} {o : Option Nat} {vp : Value} (hp : IsPar vp o) (hlen : rs.length < 900) {h : Heap}
    (hne1 : @Ne Nat aT aR) (hne2 : @Ne Nat dT aR) :
    Spec w (.ref 145) [.ref aT, .str k1 u1, .str k2 u2, .str k3 u3, .str k4 u4, .str k5 u5, vp] 6 [(aT, instObj 309 dT), (dT, treeDict w aR t e₁), (aR, listOf rs.toArray e₂)]
      (fun v h' => ∃ x : RowC × Nat, ((∃ tv, v = .int rs.length tv) ∧ NewRow w x.1 (.str k1 u1) (.str k2 u2) (.str k3 u3) (.str k4 u4) (.str k5 u5) vp ∧ ∀ q ∈ x.1.led w, h.get? q.1 = none) ∧
        ∀ q ∈ x.1.led w ++ [(aT, instObj 309 dT), (dT, treeDict w aR t e₁), (aR, listOf (rs ++ [Value.ref x.1.r]).toArray x.2)], h'.get? q.1 = some q.2 ∧
          (q.1 ∈ [(aT, instObj 309 dT), (dT, treeDict w aR t e₁), (aR, listOf rs.toArray e₂)].map (·.1) ∨ h.get? q.1 = none)) h := by
  refine enter (binds := [(Str.ofString "self", .ref aT), (Str.ofString "kind", .str k1 u1), (Str.ofString "name", .str k2 u2), (Str.ofString "uri", .str k3 u3), (Str.ofString "local", .str k4 u4), (Str.ofString "value", .str k5 u5), (Str.ofString "parent", vp)]) (by k_is) (by k_is) (fun s => BindsTo.of_eq rfl) (locs rfl) rfl rfl rfl (by decide) ?_
  intro dp un gd env outer A₀ base g L' h₁ p loose mean mg mb gs ds tk os B X T F N lt hdp hun kp
  k_fold
  k_with_none
  k_with "!c1" => first | assumption | exact And.right (by k_extra "!c2") | fail
  k_with "!c2" => first | assumption | exact And.right (by k_extra "!c3") | fail
  k_with "!c3" => first | assumption | exact And.right (by k_extra "!c4") | fail
  k_with "!c4" => first | assumption | exact And.right (by k_extra "!c5") | fail
  k_with "!c5" => first | assumption | exact And.right (by k_extra "!c6") | fail
  k_with "!c6" => first | assumption | exact And.right (by k_extra "!c7") | fail
  k_with "!c7" => first | assumption | exact And.right (by k_extra "!c8") | fail
  k_with "!c8" => assumption
  k_with "!lt9" => with_reducible first | exact And.left (by k_extra "!c1") | exact And.right (by k_extra "!c1") | fail
  k_with "!omega" => with_reducible first | exact lt_dp (by assumption) (by with_unfolding_all exact rfl) | exact lt_un (by assumption) (by with_unfolding_all exact rfl) | assumption | exact Ne.symm (by assumption) | exact Nat.ne_of_lt (by assumption) | exact Nat.ne_of_gt (by assumption) | exact le_big (by assumption) (by with_unfolding_all exact rfl) | exact le_big2 (by assumption) (by with_unfolding_all exact rfl) | exact lt_big (by assumption) (by with_unfolding_all exact rfl) | exact Nat.le_of_ble_eq_true (by with_unfolding_all exact rfl) | exact Nat.ne_of_gt (lt_s (by assumption)) | exact Nat.ne_of_gt (lt_s (lt_s (by assumption))) | exact Nat.ne_of_gt (lt_s (lt_s (lt_s (by assumption)))) | exact Nat.ne_of_lt (by k_extra "!lt9") | exact Nat.ne_of_gt (by k_extra "!lt9") | (refine Nat.lt_of_lt_of_le ?_ (Nat.le_refl _); k_extra "!lt9") | fail
  k_with "!call builtin:len" => (k_here; (with_reducible show wpAny _ _ (call (Value.builtin "len") [Value.ref _]) _ _ _); k_dflt (refine' L_len ?N ?m ?z ?_; (case N => k_asm); (case m => k_mem); (case z => omega); k_whole))
  k_with "!k_all" => first | exact ne_of_allLt (by assumption) | exact ne_of_allLt (And.right (by assumption)) | exact ne_of_allLt (And.right (And.right (by assumption)))
  k_with "!k_handed" => with_reducible assumption
  k_with "!k_all" => first | exact ne_of_allNe (by assumption) | exact ne_of_allNe (And.right (by assumption)) | exact ne_of_allNe (And.right (And.right (by assumption)))
  k_with "!call ref" => k_extra "call ref"
  k_with "!k_all" => first | exact ne_of_lts2 (by assumption) | (with_reducible assumption)
  k_with "!k_mem" => assumption
  k_with "!callWith ref" => (k_here; k_dflt (first | (refine' callWith_K ?k1 ?k2 ?_; (case k1 => k_asm); (case k2 => k_is); k_whole) | (refine' callWith_K0 ?k1 ?k2 ?_; (case k1 => k_in); (case k2 => k_is); k_whole) | (refine' callWith_M0 ?k1 ?k2 ?_; (case k1 => k_meth); (case k2 => k_is); k_whole; try dsimp only [List.nil_append, List.cons_append]) | (refine' callWith_M ?k1 ?k2 ?k3 ?k4 ?_; (case k1 => k_asm); (case k2 => k_asm); (case k3 => k_mem); (case k4 => k_is); k_whole) | (refine' callWith_F ?k1 ?_; (case k1 => exact FnAt.of (by k_asm) (by k_mem)); k_whole)))
  k_with "!eval Name" => (k_here; kc_free; k_dflt (refine' nameX_F ?N ?c ?m ?d ?_ ?a ?b; (case a => rfl); (case b => rfl); (case N => k_asm); (case c => rfl); (case m => k_mem); (case d => k_asm); k_whole))
  k_with "!exec Return some" => k_extra "exec Return some"
  k_with "!call builtin:len" => (k_here; (with_reducible show wpAny _ _ (call (Value.builtin "len") [Value.ref _]) _ _ _); k_dflt (refine' L_len ?N ?m ?z ?_; (case N => k_asm); (case m => k_mem); (case z => ((simp only [List.length_append, List.length_cons, List.length_nil]); omega)); k_whole))
  k_with "!k_room" => ((try simp only [depth_under_make, depth_under_kw, depth_in1, depth_deeper, depth_caller]); (show _ < (1000 : Nat)); (try dsimp only); omega)
  cases o with
  | none =>
    have hp' : vp = .none := hp
    subst hp'
    k_steps
    rename News _ _ _ _ => N₃
    obtain ⟨R, hR, hR2, hR3⟩ := newrow_fin N₃ kp (by omega) (by omega) (by omega) (by omega) (by omega) (by omega) (by omega)
    exact ⟨_, _, _, rfl, by assumption, ⟨R, _⟩, ⟨ktn_int (by simp), hR, fun q hq => (hR2 q hq).2⟩, fun q hq => (List.mem_append.mp hq).elim (fun hq => ⟨(hR2 q hq).1, .inr (hR2 q hq).2⟩) (hR3 q)⟩
  | some j =>
    obtain ⟨tj, rfl⟩ := hp
    k_steps
    rename News _ _ _ _ => N₃
    obtain ⟨R, hR, hR2, hR3⟩ := newrow_fin N₃ kp (by omega) (by omega) (by omega) (by omega) (by omega) (by omega) (by omega)
    exact ⟨_, _, _, rfl, by assumption, ⟨R, _⟩, ⟨ktn_int (by simp), hR, fun q hq => (hR2 q hq).2⟩, fun q hq => (List.mem_append.mp hq).elim (fun hq => ⟨(hR2 q hq).1, .inr (hR2 q hq).2⟩) (hR3 q)⟩
end
end
section
section
variable {w : World} {rows : List RowC} {j : Nat} {P P' : RowC}
theorem flat_set_keys (hP : rows[j]? = some P) (hk : (P'.led w).map (·.1) = (P.led w).map (·.1)) : ((rows.set j P').flatMap (RowC.led w)).map (·.1) = (rows.flatMap (RowC.led w)).map (·.1) := by
  rw [List.map_flatMap, List.map_flatMap]
  induction rows generalizing j with
  | nil => simp at hP
  | cons a r ih =>
    cases j with
    | zero =>
      simp at hP; subst hP
      simp only [List.set_cons_zero, List.flatMap_cons, hk]
    | succ j =>
      simp only [List.set_cons_succ, List.flatMap_cons, ih (by simpa using hP)]
theorem refs_set (hP : rows[j]? = some P) (hr : P'.r = P.r) : (rows.set j P').map (fun R => Value.ref R.r) = rows.map (fun R => Value.ref R.r) := by
  induction rows generalizing j with
  | nil => simp at hP
  | cons a r ih =>
    cases j with
    | zero => simp at hP; subst hP; simp [hr]
    | succ j => simp only [List.set_cons_succ, List.map_cons, ih (by simpa using hP)]
theorem rows_apart (nd : ((rows.flatMap (RowC.led w)).map (·.1)).Nodup) {i : Nat} {Ri : RowC} (hi : rows[i]? = some Ri) (hj : rows[j]? = some P) (hne : i ≠ j) : ∀ p ∈ Ri.led w, ∀ q ∈ P.led w, p.1 ≠ q.1 := by
  rw [List.map_flatMap, List.Nodup, List.pairwise_flatMap] at nd
  have h2 := List.pairwise_iff_getElem.mp nd.2
  obtain ⟨hi1, rfl⟩ := List.getElem?_eq_some_iff.mp hi
  obtain ⟨hj1, rfl⟩ := List.getElem?_eq_some_iff.mp hj
  intro p hp q hq
  rcases Nat.lt_or_gt_of_ne hne with h | h
  · exact h2 i j hi1 hj1 h p.1 (List.mem_map_of_mem hp) q.1 (List.mem_map_of_mem hq)
  · exact (h2 j i hj1 hi1 h q.1 (List.mem_map_of_mem hq) p.1 (List.mem_map_of_mem hp)).symm
theorem flat_set_mem (nd : ((rows.flatMap (RowC.led w)).map (·.1)).Nodup) (hP : rows[j]? = some P) {D : Addr} {o o' : Obj} (hD : (D, o) ∈ P.led w) (hP' : ∀ q ∈ P'.led w, q = (D, o') ∨ (q ∈ P.led w ∧ q.1 ≠ D)) :
    ∀ q ∈ (rows.set j P').flatMap (RowC.led w), q = (D, o') ∨ (q ∈ rows.flatMap (RowC.led w) ∧ q.1 ≠ D) := by
  intro q hq
  obtain ⟨Ri, hRi, hq⟩ := List.mem_flatMap.mp hq
  obtain ⟨i, hi⟩ := List.mem_iff_getElem?.mp hRi
  rw [List.getElem?_set] at hi
  split at hi
  · split at hi
    · cases hi
      rcases hP' q hq with h | h
      · exact .inl h
      · exact .inr ⟨List.mem_flatMap.mpr ⟨P, List.mem_of_getElem? hP, h.1⟩, h.2⟩
    · cases hi
  · rename_i hne
    exact .inr ⟨List.mem_flatMap.mpr ⟨Ri, List.mem_of_getElem? hi, hq⟩, rows_apart nd hi hP (fun e => hne e.symm) q hq _ hD⟩
end

abbrev TreeC.top (w : World) (τ : TreeC) : List (Addr × Obj) := [(τ.aT, instObj 309 τ.dT), (τ.dT, treeDict w τ.aR τ.t τ.e₁), (τ.aR, listOf τ.refs.toArray τ.e₂)]
theorem TreeC.top_sub {w : World} {τ : TreeC} : ∀ q ∈ τ.top w, q ∈ τ.led w := fun q hq => by
  simp only [List.mem_cons, List.not_mem_nil, or_false] at hq
  rcases hq with rfl | rfl | rfl
  · exact .head _
  · exact .tail _ (.head _)
  · exact .tail _ (.tail _ (.head _))
structure TreeC.Apart (w : World) (τ : TreeC) : Prop where
  ne2 : @Ne Nat τ.aT τ.aR
  ne4 : @Ne Nat τ.dT τ.aR
  ne1 : @Ne Nat τ.aT τ.dT
  rest : ∀ q ∈ τ.rows.flatMap (RowC.led w), q ∈ τ.led w ∧ q.1 ∉ (τ.top w).map (·.1)
  nd : ((τ.rows.flatMap (RowC.led w)).map (·.1)).Nodup
theorem TreeC.apart {w : World} {τ : TreeC} (hnd : ((τ.led w).map (·.1)).Nodup) : τ.Apart w := by
  simp only [TreeC.led, List.map_cons, List.nodup_cons, List.mem_cons, not_or] at hnd
  obtain ⟨⟨ne1, ne2, ne3⟩, ⟨ne4, ne5⟩, ne6, ne7⟩ := hnd
  refine ⟨ne2, ne4, ne1, fun q hq => ⟨.tail _ (.tail _ (.tail _ hq)), fun hm => ?_⟩, ne7⟩
  simp only [List.map_cons, List.map_nil, List.mem_cons, List.not_mem_nil, or_false] at hm
  rcases hm with e | e | e
  · exact ne3 (e ▸ List.mem_map_of_mem hq)
  · exact ne5 (e ▸ List.mem_map_of_mem hq)
  · exact ne6 (e ▸ List.mem_map_of_mem hq)

/-- a store with one more row -/
def TreeC.push (τ : TreeC) (rows : List RowC) (R : RowC) (e : Nat) : TreeC := { τ with rows := rows ++ [R], e₂ := e }
abbrev TreeC.mid (w : World) (τ : TreeC) (R : RowC) (e : Nat) : List (Addr × Obj) :=
  R.led w ++ [(τ.aT, instObj 309 τ.dT), (τ.dT, treeDict w τ.aR τ.t τ.e₁), (τ.aR, listOf (τ.refs ++ [Value.ref R.r]).toArray e)] ++ τ.rows.flatMap (RowC.led w)

theorem TreeC.push_nodup {w : World} {τ : TreeC} (nd : ((τ.led w).map (·.1)).Nodup) {rows : List RowC} (hk : (rows.flatMap (RowC.led w)).map (·.1) = (τ.rows.flatMap (RowC.led w)).map (·.1)) {R : RowC} {e : Nat} (hR : ((R.led w).map (·.1)).Nodup)
    (fr : ∀ q ∈ R.led w, ∀ p ∈ τ.led w, p.1 ≠ q.1) : (((τ.push rows R e).led w).map (·.1)).Nodup := by
  have h : ((τ.push rows R e).led w).map (·.1) = (τ.led w).map (·.1) ++ (R.led w).map (·.1) := by
    simp only [TreeC.led, TreeC.push, List.map_cons, List.flatMap_append, List.map_append, hk, List.flatMap_cons, List.flatMap_nil, List.append_nil, List.cons_append]
  rw [h]
  refine List.nodup_append.mpr ⟨nd, hR, fun a ha b hb => ?_⟩
  obtain ⟨p, hp, rfl⟩ := List.mem_map.mp ha
  obtain ⟨q, hq, rfl⟩ := List.mem_map.mp hb
  exact fr q hq p hp
theorem TreeC.push_refs {τ : TreeC} {rows : List RowC} (hr : rows.map (fun R => Value.ref R.r) = τ.refs) {R : RowC} {e : Nat} : (τ.push rows R e).refs = τ.refs ++ [Value.ref R.r] := by
  simp only [TreeC.refs, TreeC.push, List.map_append, List.map_cons, List.map_nil]
  rw [hr]; rfl
theorem TreeC.push_mem {w : World} {τ : TreeC} {rows : List RowC} (hr : rows.map (fun R => Value.ref R.r) = τ.refs) {R : RowC} {e : Nat} : ∀ q ∈ (τ.push rows R e).led w, q ∈ R.led w ∨ q ∈ [(τ.aT, instObj 309 τ.dT), (τ.dT, treeDict w τ.aR τ.t τ.e₁), (τ.aR, listOf (τ.refs ++ [Value.ref R.r]).toArray e)] ∨ q ∈ rows.flatMap (RowC.led w) := by
  intro q hq
  unfold TreeC.led at hq
  rw [TreeC.push_refs hr] at hq
  simp only [TreeC.push, List.mem_cons, List.flatMap_append, List.flatMap_cons, List.flatMap_nil, List.append_nil, List.mem_append] at hq
  simp only [List.mem_cons, List.not_mem_nil, or_false]
  rcases hq with h | h | h | h | h
  · exact .inr (.inl (.inl h))
  · exact .inr (.inl (.inr (.inl h)))
  · exact .inr (.inl (.inr (.inr h)))
  · exact .inr (.inr h)
  · exact .inl h
/-- nothing of an old row is among the tops -/
theorem TreeC.grow_mem {w : World} {τ : TreeC} (nd : ((τ.led w).map (·.1)).Nodup) {j : Nat} {P P' : RowC} (hP : τ.rows[j]? = some P) (hr : P'.r = P.r) {D : Addr} {o o' : Obj} (hD : (D, o) ∈ P.led w) (hP' : ∀ q ∈ P'.led w, q = (D, o') ∨ (q ∈ P.led w ∧ q.1 ≠ D))
    {R : RowC} {e : Nat} (fr : ∀ q ∈ R.led w, ∀ p ∈ τ.led w, p.1 ≠ q.1) : ∀ q ∈ (τ.push (τ.rows.set j P') R e).led w, q = (D, o') ∨ (q ∈ τ.mid w R e ∧ q.1 ≠ D) := by
  have hap := TreeC.apart nd
  have hDf : (D, o) ∈ τ.rows.flatMap (RowC.led w) := List.mem_flatMap.mpr ⟨P, List.mem_of_getElem? hP, hD⟩
  intro q hq
  rcases TreeC.push_mem (refs_set hP hr) q hq with h | h | h
  · refine .inr ⟨List.mem_append_left _ (List.mem_append_left _ h), ?_⟩
    exact (fr q h (D, o) (hap.rest _ hDf).1).symm
  · refine .inr ⟨List.mem_append_left _ (List.mem_append_right _ h), ?_⟩
    have hz := (hap.rest _ hDf).2
    intro e
    apply hz
    simp only [List.mem_cons, List.not_mem_nil, or_false] at h
    rcases h with rfl | rfl | rfl <;> simp [← e]
  · rcases flat_set_mem hap.nd hP hD hP' q h with h | h
    · exact .inl h
    · exact .inr ⟨List.mem_append_right _ h.1, h.2⟩
theorem TreeC.cut {w : World} {τ : TreeC} (nd : ((τ.led w).map (·.1)).Nodup) {j : Nat} {P : RowC} (hP : τ.rows[j]? = some P) {D : Addr} {o : Obj} (hD : (D, o) ∈ P.led w) (hDr : @Ne Nat P.r D) (hDd : @Ne Nat P.d D) (R : RowC) (e : Nat) :
    ∃ FL : List (Addr × Obj), (∀ q ∈ FL, q.1 ≠ D) ∧ (τ.aT, instObj 309 τ.dT) ∈ FL ∧ (τ.dT, treeDict w τ.aR τ.t τ.e₁) ∈ FL ∧ (τ.aR, listOf (τ.refs ++ [Value.ref R.r]).toArray e) ∈ FL ∧ (P.r, instObj 120 P.d) ∈ FL ∧ (P.d, P.dict w) ∈ FL ∧
      (∀ q ∈ (D, o) :: FL, q ∈ τ.mid w R e) ∧ (∀ q ∈ τ.mid w R e, q.1 ≠ D → q ∈ FL) := by
  have hap := TreeC.apart nd
  have hf : ∀ q ∈ P.led w, q ∈ τ.rows.flatMap (RowC.led w) := fun q hq => List.mem_flatMap.mpr ⟨P, List.mem_of_getElem? hP, hq⟩
  have hz := (hap.rest _ (hf _ hD)).2
  simp only [List.map_cons, List.map_nil, List.mem_cons, List.not_mem_nil, or_false, not_or] at hz
  have mf : ∀ q, q ∈ τ.mid w R e → q.1 ≠ D → q ∈ (τ.mid w R e).filter (fun q => decide (q.1 ≠ D)) := fun q h1 h2 => List.mem_filter.mpr ⟨h1, by simpa using h2⟩
  refine ⟨(τ.mid w R e).filter (fun q => decide (q.1 ≠ D)), fun q hq => by simpa using (List.mem_filter.mp hq).2, mf _ ?_ ?_, mf _ ?_ ?_, mf _ ?_ ?_, mf _ ?_ hDr, mf _ ?_ hDd, fun q hq => ?_, mf⟩
  · exact List.mem_append_left _ (List.mem_append_right _ (.head _))
  · exact fun e => hz.1 e.symm
  · exact List.mem_append_left _ (List.mem_append_right _ (.tail _ (.head _)))
  · exact fun e => hz.2.1 e.symm
  · exact List.mem_append_left _ (List.mem_append_right _ (.tail _ (.tail _ (.head _))))
  · exact fun e => hz.2.2 e.symm
  · exact List.mem_append_right _ (hf _ (.head _))
  · exact List.mem_append_right _ (hf _ (.tail _ (.head _)))
  · rcases List.mem_cons.mp hq with rfl | hq
    · exact List.mem_append_right _ (hf _ hD)
    · exact (List.mem_filter.mp hq).1
structure RowC.Nes (R : RowC) : Prop where
  rd : @Ne Nat R.r R.d
  rc : @Ne Nat R.r R.c
  ra : @Ne Nat R.r R.a
  rn : @Ne Nat R.r R.n
  dc : @Ne Nat R.d R.c
  da : @Ne Nat R.d R.a
  dn : @Ne Nat R.d R.n
  ca : @Ne Nat R.c R.a
  cn : @Ne Nat R.c R.n
  an : @Ne Nat R.a R.n
theorem TreeC.row_nes {w : World} {τ : TreeC} (nd : ((τ.led w).map (·.1)).Nodup) {j : Nat} {P : RowC} (hP : τ.rows[j]? = some P) : P.Nes := by
  have h := (TreeC.apart nd).nd
  rw [List.map_flatMap, List.Nodup, List.pairwise_flatMap] at h
  have h2 := h.1 P (List.mem_of_getElem? hP)
  simp only [RowC.led, List.map_cons, List.map_nil, List.pairwise_cons, List.mem_cons, List.not_mem_nil, or_false] at h2
  obtain ⟨h1, h3, h4, h5, -⟩ := h2
  exact ⟨h1 _ (.inl rfl), h1 _ (.inr (.inl rfl)), h1 _ (.inr (.inr (.inl rfl))), h1 _ (.inr (.inr (.inr rfl))), h3 _ (.inl rfl), h3 _ (.inr (.inl rfl)), h3 _ (.inr (.inr rfl)), h4 _ (.inl rfl), h4 _ (.inr rfl), h5 _ rfl⟩
end
section
example : True := by
  w_top off
  k_with_none
  k_with "!c1" => first | assumption | exact And.right (by k_extra "!c2") | fail
  k_with "!c2" => first | assumption | exact And.right (by k_extra "!c3") | fail
  k_with "!c3" => first | assumption | exact And.right (by k_extra "!c4") | fail
  k_with "!c4" => first | assumption | exact And.right (by k_extra "!c5") | fail
  k_with "!c5" => first | assumption | exact And.right (by k_extra "!c6") | fail
  k_with "!c6" => first | assumption | exact And.right (by k_extra "!c7") | fail
  k_with "!c7" => first | assumption | exact And.right (by k_extra "!c8") | fail
  k_with "!c8" => assumption
  k_with "!lt9" => with_reducible first | exact And.left (by k_extra "!c1") | exact And.right (by k_extra "!c1") | fail
  k_with "!omega" => with_reducible first | exact lt_dp (by assumption) (by with_unfolding_all exact rfl) | exact lt_un (by assumption) (by with_unfolding_all exact rfl) | assumption | exact Ne.symm (by assumption) | exact Nat.ne_of_lt (by assumption) | exact Nat.ne_of_gt (by assumption) | exact le_big (by assumption) (by with_unfolding_all exact rfl) | exact le_big2 (by assumption) (by with_unfolding_all exact rfl) | exact lt_big (by assumption) (by with_unfolding_all exact rfl) | exact Nat.le_of_ble_eq_true (by with_unfolding_all exact rfl) | exact Nat.ne_of_gt (lt_s (by assumption)) | exact Nat.ne_of_gt (lt_s (lt_s (by assumption))) | exact Nat.ne_of_gt (lt_s (lt_s (lt_s (by assumption)))) | exact Nat.ne_of_lt (by k_extra "!lt9") | exact Nat.ne_of_gt (by k_extra "!lt9") | (refine Nat.lt_of_lt_of_le ?_ (Nat.le_refl _); k_extra "!lt9") | fail
  k_with "!item" => first | (k_here; (with_reducible show wpAny _ _ (subscriptTail _ _ (Value.ref _) (Value.int _ _)) _ _ _); k_dflt (refine' kim_list ?N ?m ?c ?d ?z ?f ?x ?_; (case N => k_asm); (case m => k_mem); (case c => rfl); (case d => rfl); (case z => omega); (case f => omega); (case x => (try simp only [Int.toNat_natCast]); first | assumption | rfl | exact List.getElem?_eq_getElem (by omega)); k_whole)) | (k_here; (with_reducible show wpAny _ _ (subscriptTail _ _ (Value.ref _) (Value.int _ _)) _ _ _); k_dflt (refine' kda_item (knd := PySem.intKind _ _) ?N ?m ?d (intKind_is _ _ _ _) ?v ?_; (case N => k_asm); (case d => assumption); (case m => k_mem); (case v => assumption); k_whole))
  k_with "!subscriptTail" => k_extra "!item"
  k_with "!subscriptTail Name Name ref int" => k_extra "!item"
  k_with "!k_all" => first | exact ne_of_allLt (by assumption) | exact ne_of_allLt (And.right (by assumption)) | exact ne_of_allLt (And.right (And.right (by assumption)))
  k_with "!sub" => first | exact fun _ h => h | (with_reducible assumption) | exact sub_app (by assumption) | exact sub_app (fun _ h => h) | exact (fun _ h => List.mem_append_right _ h) | (refine sub_cc ?_; k_extra "!sub") | (refine sub_tl ?_; k_extra "!sub")
  k_with "!U" => ((case B => assumption); (case F => k_asm); (case X => assumption); (case T => assumption); (case hf => exact rfl); (case hk => exact rfl); (case N => k_asm); (case hs => k_extra "!sub"); (case hdp => ((try dsimp only); omega)); (case hun => ((try dsimp only); omega)); k_whole)
  k_with "!k_handed" => with_reducible assumption
  k_with "!k_all" => first | exact ne_of_allNe (by assumption) | exact ne_of_allNe (And.right (by assumption)) | exact ne_of_allNe (And.right (And.right (by assumption)))
  k_with "!call ref" => k_extra "call ref"
  k_with "!k_all" => first | exact ne_of_lts2 (by assumption) | (with_reducible assumption)
  k_with "!k_mem" => assumption
  k_with "!callWith ref" => (k_here; k_dflt (first | (refine' callWith_K ?k1 ?k2 ?_; (case k1 => k_asm); (case k2 => k_is); k_whole) | (refine' callWith_K0 ?k1 ?k2 ?_; (case k1 => k_in); (case k2 => k_is); k_whole) | (refine' callWith_M0 ?k1 ?k2 ?_; (case k1 => k_meth); (case k2 => k_is); k_whole; try dsimp only [List.nil_append, List.cons_append]) | (refine' callWith_M ?k1 ?k2 ?k3 ?k4 ?_; (case k1 => k_asm); (case k2 => k_asm); (case k3 => k_mem); (case k4 => k_is); k_whole) | (refine' callWith_F ?k1 ?_; (case k1 => exact FnAt.of (by k_asm) (by k_mem)); k_whole)))
  k_with "!eval Name" => (k_here; kc_free; k_dflt (refine' nameX_F ?N ?c ?m ?d ?_ ?a ?b; (case a => rfl); (case b => rfl); (case N => k_asm); (case c => rfl); (case m => k_mem); (case d => k_asm); k_whole))
  k_with "!exec Return some" => k_extra "exec Return some"
  k_with "!U5" => ((case B => assumption); (case F => k_asm); (case X => assumption); (case T => assumption); (case hf => exact rfl); (case hk => exact rfl); (case N => k_asm); (case hdp => ((try dsimp only); omega)); (case hun => ((try dsimp only); omega)); k_whole)
  trivial
theorem notin_pair {w : World} {A : Around} {E : Value → Shared → Prop} {s : Shared} {Q : Value → Shared → Prop} {K : Frag} {P : Addr} {a b k : Str} {ta tb t : Tok} {n : Nat} (X : K.In s.heap)
    (e : K.lookup P = some { cls := .type "tuple", dict := none, data := .seq #[.str a ta, .str b tb] n, slots := #[] }) (h : Q (.bool (!([a, b].any (· == k)))) s) :
    wpAny (model Prg w) A (compareOp .NotIn (.str k t) (.ref P)) Q E s := by
  have hi : StrsAre [.str a ta, .str b tb] [a, b] := .cons _ _ (.cons _ _ .nil)
  refine SeqRoads2.notIn_tuple (isStrOf k) (fun y hy => eq_isStrOf k t hi y (by simpa using hy)) (X _ _ e) ?_
  rw [show (#[Value.str a ta, Value.str b tb] : Array Value) = [Value.str a ta, Value.str b tb].toArray from rfl, ← Array.any_toList, show [Value.str a ta, Value.str b tb].toArray.toList = [Value.str a ta, Value.str b tb] from rfl, any_isStrOf k hi]
  exact h
example : True := by
  k_with "!compareOp NotIn str ref" => (k_here; k_dflt (refine' notin_pair ?X ?e ?_; (case X => k_in); (case e => k_is); k_whole))
  trivial

theorem rowT {w : World} {τ : TreeC} {i : Nat} {R : RowC} {ti : Tok} {FP : List (Addr × Obj)} {h : Heap} (hs : ∀ q ∈ τ.led w, q ∈ FP) (hR : τ.rows[i]? = some R) (hlen : τ.rows.length < 1000) :
    Spec w (.ref 152) [.ref τ.aT, .int i ti] 3 FP (fun v h' => v = .ref R.r ∧ ∀ q ∈ FP, h'.get? q.1 = some q.2) h :=
  row_spec (hs _ (.head _)) (hs _ (.tail _ (.head _))) (hs _ (.tail _ (.tail _ (.head _)))) (TreeC.ref hR) (by simpa [TreeC.refs] using hlen)

theorem add_fin {w : World} {g h h' : Heap} {L' : Addr} {τ : TreeC} {j : Nat} {P P' : RowC} {D : Addr} {o o' : Obj} {R : RowC} {e : Nat} {FL : List (Addr × Obj)} (nd : ((τ.led w).map (·.1)).Nodup) (hP : τ.rows[j]? = some P)
    (hr : P'.r = P.r) (hD : (D, o) ∈ P.led w) (hP' : ∀ q ∈ P'.led w, q = (D, o') ∨ (q ∈ P.led w ∧ q.1 ≠ D)) (hk : (P'.led w).map (·.1) = (P.led w).map (·.1)) (hRn : ((R.led w).map (·.1)).Nodup)
    (fr : ∀ q ∈ R.led w, ∀ p ∈ τ.led w, p.1 ≠ q.1) (N : News g L' h' ((D, o') :: FL)) (hFL : ∀ q ∈ τ.mid w R e, q.1 ≠ D → q ∈ FL) (kp : ∀ b o, b ∉ (τ.led w).map (·.1) → h.get? b = some o → g.get? b = some o) :
    ((((τ.push (τ.rows.set j P') R e).led w).map (·.1)).Nodup) ∧ ∀ q ∈ (τ.push (τ.rows.set j P') R e).led w, h'.get? q.1 = some q.2 ∧ (q.1 ∈ (τ.led w).map (·.1) ∨ h.get? q.1 = none) := by
  refine ⟨TreeC.push_nodup nd (flat_set_keys hP hk) hRn fr, fun q hq => ?_⟩
  have hap := TreeC.apart nd
  have hDf : (D, o) ∈ τ.rows.flatMap (RowC.led w) := List.mem_flatMap.mpr ⟨P, List.mem_of_getElem? hP, hD⟩
  rcases TreeC.grow_mem nd hP hr hD hP' fr q hq with rfl | ⟨h1, h2⟩
  · exact ⟨(N _ (.head _)).1, .inl (List.mem_map.mpr ⟨_, (hap.rest _ hDf).1, rfl⟩)⟩
  · have hq2 : q ∈ (D, o') :: FL := .tail _ (hFL q h1 h2)
    refine ⟨(N _ hq2).1, ?_⟩
    rcases List.mem_append.mp h1 with h1 | h1
    · rcases List.mem_append.mp h1 with h1 | h1
      · exact .inr (fresh_of kp N hq2 fun p hp => fr q h1 p hp)
      · refine .inl ?_
        simp only [List.mem_cons, List.not_mem_nil, or_false] at h1
        rcases h1 with rfl | rfl | rfl <;> simp [TreeC.led]
    · exact .inl (List.mem_map_of_mem (hap.rest _ h1).1)

theorem addchild_some {w : World} {τ : TreeC} {j : Nat} {P : RowC} (hP : τ.rows[j]? = some P) {kd : Str} {tkp : Tok} (hk : P.vk = .str kd tkp) (hkp : ([Str.ofString "root", Str.ofString "element"].any fun x => x == kd) = true) (hlen : τ.rows.length < 500) (hcs : P.cs.length < 500)
    (hnd : ((τ.led w).map (·.1)).Nodup) {k1 k2 k3 k4 k5 : Str} {tj u1 u2 u3 u4 u5 : Tok} {h : Heap} :
    Spec w (.ref 166) [.ref τ.aT, .int j tj, .str k1 u1, .str k2 u2, .str k3 u3, .str k4 u4, .str k5 u5] 10 (τ.led w)
      (fun v h' => ∃ x : TreeC, (∃ tv R e ec, v = .int τ.rows.length tv ∧ NewRow w R (.str k1 u1) (.str k2 u2) (.str k3 u3) (.str k4 u4) (.str k5 u5) (.int j tj) ∧ x = τ.push (τ.rows.set j { P with cs := P.cs ++ [.int τ.rows.length tv], ec := ec }) R e ∧ ((x.led w).map (·.1)).Nodup) ∧
        ∀ q ∈ x.led w, h'.get? q.1 = some q.2 ∧ (q.1 ∈ (τ.led w).map (·.1) ∨ h.get? q.1 = none)) h := by
  refine enter (binds := [(Str.ofString "self", .ref τ.aT), (Str.ofString "parent", .int j tj), (Str.ofString "kind", .str k1 u1), (Str.ofString "name", .str k2 u2), (Str.ofString "uri", .str k3 u3), (Str.ofString "local", .str k4 u4), (Str.ofString "value", .str k5 u5)]) (by k_is) (by k_is) (fun s => BindsTo.of_eq rfl) (locs rfl) rfl rfl rfl (by decide) ?_
  intro dp un gd env outer A₀ base g L' h₁ p loose mean mg mb gs ds tk os B X T F N lt hdp hun kp
  k_fold
  k_with_none
  k_with "!c1" => first | assumption | exact And.right (by k_extra "!c2") | fail
  k_with "!c2" => first | assumption | exact And.right (by k_extra "!c3") | fail
  k_with "!c3" => first | assumption | exact And.right (by k_extra "!c4") | fail
  k_with "!c4" => first | assumption | exact And.right (by k_extra "!c5") | fail
  k_with "!c5" => first | assumption | exact And.right (by k_extra "!c6") | fail
  k_with "!c6" => first | assumption | exact And.right (by k_extra "!c7") | fail
  k_with "!c7" => first | assumption | exact And.right (by k_extra "!c8") | fail
  k_with "!c8" => assumption
  k_with "!lt9" => with_reducible first | exact And.left (by k_extra "!c1") | exact And.right (by k_extra "!c1") | fail
  k_with "!omega" => with_reducible first | exact lt_dp (by assumption) (by with_unfolding_all exact rfl) | exact lt_un (by assumption) (by with_unfolding_all exact rfl) | assumption | exact Ne.symm (by assumption) | exact Nat.ne_of_lt (by assumption) | exact Nat.ne_of_gt (by assumption) | exact le_big (by assumption) (by with_unfolding_all exact rfl) | exact le_big2 (by assumption) (by with_unfolding_all exact rfl) | exact lt_big (by assumption) (by with_unfolding_all exact rfl) | exact Nat.le_of_ble_eq_true (by with_unfolding_all exact rfl) | exact Nat.ne_of_gt (lt_s (by assumption)) | exact Nat.ne_of_gt (lt_s (lt_s (by assumption))) | exact Nat.ne_of_gt (lt_s (lt_s (lt_s (by assumption)))) | exact Nat.ne_of_lt (by k_extra "!lt9") | exact Nat.ne_of_gt (by k_extra "!lt9") | (refine Nat.lt_of_lt_of_le ?_ (Nat.le_refl _); k_extra "!lt9") | fail
  k_with "!item" => first | (k_here; (with_reducible show wpAny _ _ (subscriptTail _ _ (Value.ref _) (Value.int _ _)) _ _ _); k_dflt (refine' kim_list ?N ?m ?c ?d ?z ?f ?x ?_; (case N => k_asm); (case m => k_mem); (case c => rfl); (case d => rfl); (case z => omega); (case f => omega); (case x => (try simp only [Int.toNat_natCast]); first | assumption | rfl | exact List.getElem?_eq_getElem (by omega)); k_whole)) | (k_here; (with_reducible show wpAny _ _ (subscriptTail _ _ (Value.ref _) (Value.int _ _)) _ _ _); k_dflt (refine' kda_item (knd := PySem.intKind _ _) ?N ?m ?d (intKind_is _ _ _ _) ?v ?_; (case N => k_asm); (case d => assumption); (case m => k_mem); (case v => assumption); k_whole))
  k_with "!subscriptTail" => k_extra "!item"
  k_with "!subscriptTail Name Name ref int" => k_extra "!item"
  k_with "!k_all" => first | exact ne_of_allLt (by assumption) | exact ne_of_allLt (And.right (by assumption)) | exact ne_of_allLt (And.right (And.right (by assumption)))
  k_with "!sub" => first | exact fun _ h => h | (with_reducible assumption) | exact sub_app (by assumption) | exact sub_app (fun _ h => h) | exact (fun _ h => List.mem_append_right _ h) | (refine sub_cc ?_; k_extra "!sub") | (refine sub_tl ?_; k_extra "!sub")
  k_with "!U" => ((case B => assumption); (case F => k_asm); (case X => assumption); (case T => assumption); (case hf => exact rfl); (case hk => exact rfl); (case N => k_asm); (case hs => k_extra "!sub"); (case hdp => ((try dsimp only); omega)); (case hun => ((try dsimp only); omega)); k_whole)
  k_with "!k_handed" => with_reducible assumption
  k_with "!k_all" => first | exact ne_of_allNe (by assumption) | exact ne_of_allNe (And.right (by assumption)) | exact ne_of_allNe (And.right (And.right (by assumption)))
  k_with "!call ref" => k_extra "call ref"
  k_with "!k_all" => first | exact ne_of_lts2 (by assumption) | (with_reducible assumption)
  k_with "!k_mem" => assumption
  k_with "!callWith ref" => (k_here; k_dflt (first | (refine' callWith_K ?k1 ?k2 ?_; (case k1 => k_asm); (case k2 => k_is); k_whole) | (refine' callWith_K0 ?k1 ?k2 ?_; (case k1 => k_in); (case k2 => k_is); k_whole) | (refine' callWith_M0 ?k1 ?k2 ?_; (case k1 => k_meth); (case k2 => k_is); k_whole; try dsimp only [List.nil_append, List.cons_append]) | (refine' callWith_M ?k1 ?k2 ?k3 ?k4 ?_; (case k1 => k_asm); (case k2 => k_asm); (case k3 => k_mem); (case k4 => k_is); k_whole) | (refine' callWith_F ?k1 ?_; (case k1 => exact FnAt.of (by k_asm) (by k_mem)); k_whole)))
  k_with "!eval Name" => (k_here; kc_free; k_dflt (refine' nameX_F ?N ?c ?m ?d ?_ ?a ?b; (case a => rfl); (case b => rfl); (case N => k_asm); (case c => rfl); (case m => k_mem); (case d => k_asm); k_whole))
  k_with "!exec Return some" => k_extra "exec Return some"
  k_with "!U5" => ((case B => assumption); (case F => k_asm); (case X => assumption); (case T => assumption); (case hf => exact rfl); (case hk => exact rfl); (case N => k_asm); (case hdp => ((try dsimp only); omega)); (case hun => ((try dsimp only); omega)); k_whole)
  k_with "!compareOp NotIn str ref" => (k_here; k_dflt (refine' notin_pair ?X ?e ?_; (case X => k_in); (case e => k_is); k_whole))
  have hP1 := TreeC.at (w := w) hP _ (.head _)
  have hP2 := TreeC.at (w := w) hP _ (.tail _ (.head _))
  have hP3 := TreeC.at (w := w) hP _ (.tail _ (.tail _ (.head _)))
  simp only [RowC.dict] at hP2
  rw [hk] at hP2
  have hap := TreeC.apart hnd
  have hns := TreeC.row_nes hnd hP
  have hjl : j < τ.refs.length := (List.getElem?_eq_some_iff.mp (TreeC.ref hP)).1
  have hj2 : j < τ.rows.length := (List.getElem?_eq_some_iff.mp hP).1
  k_with "call ref" =>
    first
    | (refine' use_ro (rowT (FP := τ.led w) (fun _ h => h) hP (by omega)) ?B ?F ?X ?T ?hf ?hk ?N ?hs ?hdp ?hun ?_
       walk_at "U"
       intro v' h' tk' F' N' ka' hv'
       subst hv')
    | (refine' use_mut (τ.rows.flatMap (RowC.led w)) (newrow_spec (o := some j) (rs := τ.refs) ⟨tj, rfl⟩ (by simpa [TreeC.refs] using Nat.lt_of_lt_of_le hlen (by decide)) hap.ne2 hap.ne4) ?B ?F ?X ?T ?hf ?hk ?N ?hs ?hr ?hdp ?hun ?_
       case hs => exact TreeC.top_sub
       case hr => exact hap.rest
       walk_at "U5"
       intro v' x' h' tk' F' N' fr' hx'
       obtain ⟨⟨tv', hv'⟩, hR', hfr'⟩ := hx'
       rw [show τ.refs.length = τ.rows.length from by simp [TreeC.refs]] at hv'
       subst hv'
       have frR : ∀ q ∈ x'.1.led w, ∀ p ∈ τ.led w, p.1 ≠ q.1 := fun q hq => fr' _ (hfr' q hq)
       obtain ⟨FL, hF0, hF1, hF2, hF3, hF4, hF5, hF6, hF7⟩ := TreeC.cut hnd hP (List.Mem.tail _ (List.Mem.tail _ (List.Mem.head _))) hns.rc hns.dc x'.1 x'.2
       have N9 := nsub N' hF6
       simp only [RowC.dict] at hF5
       have hx9 : (τ.refs ++ [Value.ref x'.1.r])[j]? = some (.ref P.r) := by
         rw [List.getElem?_append_left hjl]
         exact TreeC.ref hP
       have hl9 : (τ.refs ++ [Value.ref x'.1.r]).length = τ.rows.length + 1 := by simp [TreeC.refs]
       clear N')
  k_steps
  rename News _ _ _ _ => N₃
  rename NewRow _ _ _ _ _ _ _ _ => hR9
  rename (∀ q ∈ TreeC.mid _ _ _ _, _) => hF9
  rename (∀ q ∈ RowC.led _ _, ∀ p ∈ TreeC.led _ _, _) => fr9
  simp only [List.push_toArray] at N₃
  obtain ⟨hr1, hr2⟩ := add_fin (P' := { P with cs := P.cs ++ [.int τ.rows.length tv'], ec := P.ec + 1 }) hnd hP rfl (List.Mem.tail _ (List.Mem.tail _ (List.Mem.head _))) (fun q hq => by
    simp only [RowC.led, List.mem_cons, List.not_mem_nil, or_false] at hq ⊢
    rcases hq with rfl | rfl | rfl | rfl | rfl
    · exact .inr ⟨.inl rfl, hns.rc⟩
    · exact .inr ⟨.inr (.inl rfl), hns.dc⟩
    · exact .inl rfl
    · exact .inr ⟨.inr (.inr (.inr (.inl rfl))), hns.ca.symm⟩
    · exact .inr ⟨.inr (.inr (.inr (.inr rfl))), hns.cn.symm⟩) rfl hR9.nodup fr9 N₃ hF9 kp
  exact ⟨_, _, _, rfl, by assumption, _, ⟨_, _, _, _, rfl, hR9, rfl, hr1⟩, hr2⟩
end
section
example : True := by
  w_top off
  k_with_none
  k_with "!c1" => first | assumption | exact And.right (by k_extra "!c2") | fail
  k_with "!c2" => first | assumption | exact And.right (by k_extra "!c3") | fail
  k_with "!c3" => first | assumption | exact And.right (by k_extra "!c4") | fail
  k_with "!c4" => first | assumption | exact And.right (by k_extra "!c5") | fail
  k_with "!c5" => first | assumption | exact And.right (by k_extra "!c6") | fail
  k_with "!c6" => first | assumption | exact And.right (by k_extra "!c7") | fail
  k_with "!c7" => first | assumption | exact And.right (by k_extra "!c8") | fail
  k_with "!c8" => assumption
  k_with "!lt9" => with_reducible first | exact And.left (by k_extra "!c1") | exact And.right (by k_extra "!c1") | fail
  k_with "!omega" => with_reducible first | exact lt_dp (by assumption) (by with_unfolding_all exact rfl) | exact lt_un (by assumption) (by with_unfolding_all exact rfl) | assumption | exact Ne.symm (by assumption) | exact Nat.ne_of_lt (by assumption) | exact Nat.ne_of_gt (by assumption) | exact le_big (by assumption) (by with_unfolding_all exact rfl) | exact le_big2 (by assumption) (by with_unfolding_all exact rfl) | exact lt_big (by assumption) (by with_unfolding_all exact rfl) | exact Nat.le_of_ble_eq_true (by with_unfolding_all exact rfl) | exact Nat.ne_of_gt (lt_s (by assumption)) | exact Nat.ne_of_gt (lt_s (lt_s (by assumption))) | exact Nat.ne_of_gt (lt_s (lt_s (lt_s (by assumption)))) | exact Nat.ne_of_lt (by k_extra "!lt9") | exact Nat.ne_of_gt (by k_extra "!lt9") | (refine Nat.lt_of_lt_of_le ?_ (Nat.le_refl _); k_extra "!lt9") | fail
  k_with "!k_all" => first | exact ne_of_allLt (by assumption) | exact ne_of_allLt (And.right (by assumption)) | exact ne_of_allLt (And.right (And.right (by assumption)))
  k_with "!k_handed" => with_reducible assumption
  k_with "!k_all" => first | exact ne_of_allNe (by assumption) | exact ne_of_allNe (And.right (by assumption)) | exact ne_of_allNe (And.right (And.right (by assumption)))
  k_with "!call ref" => k_extra "call ref"
  k_with "!k_all" => first | exact ne_of_lts2 (by assumption) | (with_reducible assumption)
  k_with "!k_mem" => assumption
  k_with "!callWith ref" => (k_here; k_dflt (first | (refine' callWith_K ?k1 ?k2 ?_; (case k1 => k_asm); (case k2 => k_is); k_whole) | (refine' callWith_K0 ?k1 ?k2 ?_; (case k1 => k_in); (case k2 => k_is); k_whole) | (refine' callWith_M0 ?k1 ?k2 ?_; (case k1 => k_meth); (case k2 => k_is); k_whole; try dsimp only [List.nil_append, List.cons_append]) | (refine' callWith_M ?k1 ?k2 ?k3 ?k4 ?_; (case k1 => k_asm); (case k2 => k_asm); (case k3 => k_mem); (case k4 => k_is); k_whole) | (refine' callWith_F ?k1 ?_; (case k1 => exact FnAt.of (by k_asm) (by k_mem)); k_whole)))
  k_with "!eval Name" => (k_here; kc_free; k_dflt (refine' nameX_F ?N ?c ?m ?d ?_ ?a ?b; (case a => rfl); (case b => rfl); (case N => k_asm); (case c => rfl); (case m => k_mem); (case d => k_asm); k_whole))
  k_with "!exec Return some" => k_extra "exec Return some"
  k_with "!U5" => ((case B => assumption); (case F => k_asm); (case X => assumption); (case T => assumption); (case hf => exact rfl); (case hk => exact rfl); (case N => k_asm); (case hdp => ((try dsimp only); omega)); (case hun => ((try dsimp only); omega)); k_whole)
  trivial
/-- a store that has grown by one row, put among the children of a parent or loose -/
def TreeC.Added (w : World) (τ : TreeC) (o : Option Nat) (k n u l v : Str) (val : Value) (x : TreeC) : Prop :=
  ∃ tv R e vp t1 t2 t3 t4 t5, val = .int τ.rows.length tv ∧ NewRow w R (.str k t1) (.str n t2) (.str u t3) (.str l t4) (.str v t5) vp ∧ IsPar vp o ∧ ((x.led w).map (·.1)).Nodup ∧
    ((o = none ∧ x = τ.push τ.rows R e) ∨ ∃ j P tc ec, o = some j ∧ τ.rows[j]? = some P ∧ x = τ.push (τ.rows.set j { P with cs := P.cs ++ [.int τ.rows.length tc], ec := ec }) R e)
/-- what add_child asks of its parent -/
def TreeC.CanHold (τ : TreeC) (o : Option Nat) : Prop := ∀ j, o = some j → ∃ P kd tkp, τ.rows[j]? = some P ∧ P.vk = .str kd tkp ∧ ([Str.ofString "root", Str.ofString "element"].any fun x => x == kd) = true ∧ P.cs.length < 500
abbrev AddPost (w : World) (τ : TreeC) (o : Option Nat) (k n u l v : Str) (h : Heap) (val : Value) (h' : Heap) : Prop :=
  ∃ x : TreeC, τ.Added w o k n u l v val x ∧ ∀ q ∈ x.led w, h'.get? q.1 = some q.2 ∧ (q.1 ∈ (τ.led w).map (·.1) ∨ h.get? q.1 = none)

theorem Spec.mono {w : World} {f : Value} {vs : List Value} {n : Nat} {FP : List (Addr × Obj)} {Post Post' : Value → Heap → Prop} {h : Heap} (S : Spec w f vs n FP Post h) (hp : ∀ v h', Post v h' → Post' v h') : Spec w f vs n FP Post' h :=
  fun dp un gd env outer A₀ base h₀ L m p loose mean mg mb gs ds tk os Q E B F X T hf hk N hd hu k =>
    S dp un gd env outer A₀ base h₀ L m p loose mean mg mb gs ds tk os Q E B F X T hf hk N hd hu fun v h' tk' F' kp P => k v h' tk' F' kp (hp v h' P)

theorem push_fin {w : World} {g h h' : Heap} {L' : Addr} {τ : TreeC} {R : RowC} {e : Nat} (nd : ((τ.led w).map (·.1)).Nodup) (hRn : ((R.led w).map (·.1)).Nodup) (fr : ∀ q ∈ R.led w, ∀ p ∈ τ.led w, p.1 ≠ q.1)
    (N : News g L' h' (τ.mid w R e)) (kp : ∀ b o, b ∉ (τ.led w).map (·.1) → h.get? b = some o → g.get? b = some o) :
    ((((τ.push τ.rows R e).led w).map (·.1)).Nodup) ∧ ∀ q ∈ (τ.push τ.rows R e).led w, h'.get? q.1 = some q.2 ∧ (q.1 ∈ (τ.led w).map (·.1) ∨ h.get? q.1 = none) := by
  have hap := TreeC.apart nd
  refine ⟨TreeC.push_nodup nd rfl hRn fr, fun q hq => ?_⟩
  rcases TreeC.push_mem rfl q hq with h1 | h1 | h1
  · have hm : q ∈ τ.mid w R e := List.mem_append_left _ (List.mem_append_left _ h1)
    exact ⟨(N _ hm).1, .inr (fresh_of kp N hm fun p hp => fr q h1 p hp)⟩
  · refine ⟨(N _ (List.mem_append_left _ (List.mem_append_right _ h1))).1, .inl ?_⟩
    simp only [List.mem_cons, List.not_mem_nil, or_false] at h1
    rcases h1 with rfl | rfl | rfl <;> simp [TreeC.led]
  · exact ⟨(N _ (List.mem_append_right _ h1)).1, .inl (List.mem_map_of_mem (hap.rest _ h1).1)⟩

theorem addchild_spec {w : World} {τ : TreeC} {o : Option Nat} {vp : Value} (hp : IsPar vp o) (hc : τ.CanHold o) (hlen : τ.rows.length < 500)
    (hnd : ((τ.led w).map (·.1)).Nodup) {k1 k2 k3 k4 k5 : Str} {u1 u2 u3 u4 u5 : Tok} {h : Heap} :
    Spec w (.ref 166) [.ref τ.aT, vp, .str k1 u1, .str k2 u2, .str k3 u3, .str k4 u4, .str k5 u5] 10 (τ.led w) (AddPost w τ o k1 k2 k3 k4 k5 h) h := by
  cases o with
  | some j =>
    obtain ⟨tj, rfl⟩ := hp
    obtain ⟨P, kd, tkp, hP, hk, hkp, hcs⟩ := hc j rfl
    refine (addchild_some hP hk hkp hlen hcs hnd).mono fun v h' h => ?_
    obtain ⟨x, ⟨tv, R, e, ec, rfl, hR, rfl, hn⟩, hl⟩ := h
    exact ⟨_, ⟨_, R, e, _, _, _, _, _, _, rfl, hR, ⟨_, rfl⟩, hn, .inr ⟨j, P, _, _, rfl, hP, rfl⟩⟩, hl⟩
  | none =>
    have hp' : vp = .none := hp
    subst hp'
    refine enter (binds := [(Str.ofString "self", .ref τ.aT), (Str.ofString "parent", .none), (Str.ofString "kind", .str k1 u1), (Str.ofString "name", .str k2 u2), (Str.ofString "uri", .str k3 u3), (Str.ofString "local", .str k4 u4), (Str.ofString "value", .str k5 u5)]) (by k_is) (by k_is) (fun s => BindsTo.of_eq rfl) (locs rfl) rfl rfl rfl (by decide) ?_
    intro dp un gd env outer A₀ base g L' h₁ p loose mean mg mb gs ds tk os B X T F N lt hdp hun kp
    k_fold
    k_with_none
    k_with "!c1" => first | assumption | exact And.right (by k_extra "!c2") | fail
    k_with "!c2" => first | assumption | exact And.right (by k_extra "!c3") | fail
    k_with "!c3" => first | assumption | exact And.right (by k_extra "!c4") | fail
    k_with "!c4" => first | assumption | exact And.right (by k_extra "!c5") | fail
    k_with "!c5" => first | assumption | exact And.right (by k_extra "!c6") | fail
    k_with "!c6" => first | assumption | exact And.right (by k_extra "!c7") | fail
    k_with "!c7" => first | assumption | exact And.right (by k_extra "!c8") | fail
    k_with "!c8" => assumption
    k_with "!lt9" => with_reducible first | exact And.left (by k_extra "!c1") | exact And.right (by k_extra "!c1") | fail
    k_with "!omega" => with_reducible first | exact lt_dp (by assumption) (by with_unfolding_all exact rfl) | exact lt_un (by assumption) (by with_unfolding_all exact rfl) | assumption | exact Ne.symm (by assumption) | exact Nat.ne_of_lt (by assumption) | exact Nat.ne_of_gt (by assumption) | exact le_big (by assumption) (by with_unfolding_all exact rfl) | exact le_big2 (by assumption) (by with_unfolding_all exact rfl) | exact lt_big (by assumption) (by with_unfolding_all exact rfl) | exact Nat.le_of_ble_eq_true (by with_unfolding_all exact rfl) | exact Nat.ne_of_gt (lt_s (by assumption)) | exact Nat.ne_of_gt (lt_s (lt_s (by assumption))) | exact Nat.ne_of_gt (lt_s (lt_s (lt_s (by assumption)))) | exact Nat.ne_of_lt (by k_extra "!lt9") | exact Nat.ne_of_gt (by k_extra "!lt9") | (refine Nat.lt_of_lt_of_le ?_ (Nat.le_refl _); k_extra "!lt9") | fail
    k_with "!k_all" => first | exact ne_of_allLt (by assumption) | exact ne_of_allLt (And.right (by assumption)) | exact ne_of_allLt (And.right (And.right (by assumption)))
    k_with "!k_handed" => with_reducible assumption
    k_with "!k_all" => first | exact ne_of_allNe (by assumption) | exact ne_of_allNe (And.right (by assumption)) | exact ne_of_allNe (And.right (And.right (by assumption)))
    k_with "!call ref" => k_extra "call ref"
    k_with "!k_all" => first | exact ne_of_lts2 (by assumption) | (with_reducible assumption)
    k_with "!k_mem" => assumption
    k_with "!callWith ref" => (k_here; k_dflt (first | (refine' callWith_K ?k1 ?k2 ?_; (case k1 => k_asm); (case k2 => k_is); k_whole) | (refine' callWith_K0 ?k1 ?k2 ?_; (case k1 => k_in); (case k2 => k_is); k_whole) | (refine' callWith_M0 ?k1 ?k2 ?_; (case k1 => k_meth); (case k2 => k_is); k_whole; try dsimp only [List.nil_append, List.cons_append]) | (refine' callWith_M ?k1 ?k2 ?k3 ?k4 ?_; (case k1 => k_asm); (case k2 => k_asm); (case k3 => k_mem); (case k4 => k_is); k_whole) | (refine' callWith_F ?k1 ?_; (case k1 => exact FnAt.of (by k_asm) (by k_mem)); k_whole)))
    k_with "!eval Name" => (k_here; kc_free; k_dflt (refine' nameX_F ?N ?c ?m ?d ?_ ?a ?b; (case a => rfl); (case b => rfl); (case N => k_asm); (case c => rfl); (case m => k_mem); (case d => k_asm); k_whole))
    k_with "!exec Return some" => k_extra "exec Return some"
    k_with "!U5" => ((case B => assumption); (case F => k_asm); (case X => assumption); (case T => assumption); (case hf => exact rfl); (case hk => exact rfl); (case N => k_asm); (case hdp => ((try dsimp only); omega)); (case hun => ((try dsimp only); omega)); k_whole)
    have hap := TreeC.apart hnd
    k_with "call ref" =>
      first
      | (refine' use_mut (τ.rows.flatMap (RowC.led w)) (newrow_spec (o := none) (rs := τ.refs) rfl (by simpa [TreeC.refs] using Nat.lt_of_lt_of_le hlen (by decide)) hap.ne2 hap.ne4) ?B ?F ?X ?T ?hf ?hk ?N ?hs ?hr ?hdp ?hun ?_
         case hs => exact TreeC.top_sub
         case hr => exact hap.rest
         walk_at "U5"
         intro v' x' h' tk' F' N' fr' hx'
         obtain ⟨⟨tv', hv'⟩, hR', hfr'⟩ := hx'
         rw [show τ.refs.length = τ.rows.length from by simp [TreeC.refs]] at hv'
         subst hv'
         have frR : ∀ q ∈ x'.1.led w, ∀ p ∈ τ.led w, p.1 ≠ q.1 := fun q hq => fr' _ (hfr' q hq))
    k_steps
    rename News _ _ _ _ => N₃
    rename NewRow _ _ _ _ _ _ _ _ => hR9
    rename (∀ q ∈ RowC.led _ _, ∀ p ∈ TreeC.led _ _, _) => fr9
    obtain ⟨hr1, hr2⟩ := push_fin hnd hR9.nodup fr9 N₃ kp
    exact ⟨_, _, _, rfl, by assumption, _, ⟨_, _, _, _, _, _, _, _, _, rfl, hR9, rfl, hr1, .inl ⟨rfl, rfl⟩⟩, hr2⟩

example : True := by
  k_with "!call ref" => (k_here; (with_reducible show wpAny _ _ (call (Value.ref 166) _) _ _ _); k_dflt (refine' use_mut [] (addchild_spec ?hp ?hc ?hl ?hn) ?B ?F ?X ?T ?hf ?hk ?N ?hs ?hr ?hdp ?hun ?_; (case hs => exact fun _ h => h); (case hr => exact fun _ h => nomatch h); (case hp => assumption); (case hc => assumption); (case hl => assumption); (case hn => assumption); k_extra "!U5"); intro zqv zqx zqh zqtk zqF zqN zqfr zqhx)
  trivial
section
variable {w : World} {τ : TreeC} {o : Option Nat} {vp : Value} {h : Heap} {u1 u2 u3 : Tok} {k1 k2 k3 : Str}
theorem added_fin {g h' : Heap} {L' : Addr} {x : TreeC} (N : News g L' h' (x.led w ++ [])) (kp : ∀ b o, b ∉ (τ.led w).map (·.1) → h.get? b = some o → g.get? b = some o) :
    ∀ q ∈ x.led w, h'.get? q.1 = some q.2 ∧ (q.1 ∈ (τ.led w).map (·.1) ∨ h.get? q.1 = none) := fun q hq => by
  have hm : q ∈ x.led w ++ [] := by simpa using hq
  refine ⟨(N _ hm).1, ?_⟩
  by_cases hk : q.1 ∈ (τ.led w).map (·.1)
  · exact .inl hk
  · exact .inr (fresh_of kp N hm fun p hp e => hk (List.mem_map.mpr ⟨p, hp, e⟩))

theorem addelement_spec (hp : IsPar vp o) (hc : τ.CanHold o) (hlen : τ.rows.length < 500) (hnd : ((τ.led w).map (·.1)).Nodup) :
    Spec w (.ref 173) [.ref τ.aT, vp, .str k1 u1, .str k2 u2, .str k3 u3] 13 (τ.led w) (AddPost w τ o (Str.ofString "element") k1 k2 k3 (Str.ofString "") h) h := by
  have hh := hp.handed
  refine enter (binds := [(Str.ofString "self", .ref τ.aT), (Str.ofString "parent", vp), (Str.ofString "name", .str k1 u1), (Str.ofString "uri", .str k2 u2), (Str.ofString "local", .str k3 u3)]) (by k_is) (by k_is) (fun s => BindsTo.of_eq rfl) (locs rfl) rfl rfl rfl (by decide) ?_
  intro dp un gd env outer A₀ base g L' h₁ p loose mean mg mb gs ds tk os B X T F N lt hdp hun kp
  k_fold
  k_with_none
  k_with "!c1" => first | assumption | exact And.right (by k_extra "!c2") | fail
  k_with "!c2" => first | assumption | exact And.right (by k_extra "!c3") | fail
  k_with "!c3" => first | assumption | exact And.right (by k_extra "!c4") | fail
  k_with "!c4" => first | assumption | exact And.right (by k_extra "!c5") | fail
  k_with "!c5" => first | assumption | exact And.right (by k_extra "!c6") | fail
  k_with "!c6" => first | assumption | exact And.right (by k_extra "!c7") | fail
  k_with "!c7" => first | assumption | exact And.right (by k_extra "!c8") | fail
  k_with "!c8" => assumption
  k_with "!lt9" => with_reducible first | exact And.left (by k_extra "!c1") | exact And.right (by k_extra "!c1") | fail
  k_with "!omega" => with_reducible first | exact lt_dp (by assumption) (by with_unfolding_all exact rfl) | exact lt_un (by assumption) (by with_unfolding_all exact rfl) | assumption | exact Ne.symm (by assumption) | exact Nat.ne_of_lt (by assumption) | exact Nat.ne_of_gt (by assumption) | exact le_big (by assumption) (by with_unfolding_all exact rfl) | exact le_big2 (by assumption) (by with_unfolding_all exact rfl) | exact lt_big (by assumption) (by with_unfolding_all exact rfl) | exact Nat.le_of_ble_eq_true (by with_unfolding_all exact rfl) | exact Nat.ne_of_gt (lt_s (by assumption)) | exact Nat.ne_of_gt (lt_s (lt_s (by assumption))) | exact Nat.ne_of_gt (lt_s (lt_s (lt_s (by assumption)))) | exact Nat.ne_of_lt (by k_extra "!lt9") | exact Nat.ne_of_gt (by k_extra "!lt9") | (refine Nat.lt_of_lt_of_le ?_ (Nat.le_refl _); k_extra "!lt9") | fail
  k_with "!k_all" => first | exact ne_of_allLt (by assumption) | exact ne_of_allLt (And.right (by assumption)) | exact ne_of_allLt (And.right (And.right (by assumption)))
  k_with "!k_handed" => with_reducible assumption
  k_with "!k_all" => first | exact ne_of_allNe (by assumption) | exact ne_of_allNe (And.right (by assumption)) | exact ne_of_allNe (And.right (And.right (by assumption)))
  k_with "!call ref" => k_extra "call ref"
  k_with "!k_all" => first | exact ne_of_lts2 (by assumption) | (with_reducible assumption)
  k_with "!k_mem" => assumption
  k_with "!callWith ref" => (k_here; k_dflt (first | (refine' callWith_K ?k1 ?k2 ?_; (case k1 => k_asm); (case k2 => k_is); k_whole) | (refine' callWith_K0 ?k1 ?k2 ?_; (case k1 => k_in); (case k2 => k_is); k_whole) | (refine' callWith_M0 ?k1 ?k2 ?_; (case k1 => k_meth); (case k2 => k_is); k_whole; try dsimp only [List.nil_append, List.cons_append]) | (refine' callWith_M ?k1 ?k2 ?k3 ?k4 ?_; (case k1 => k_asm); (case k2 => k_asm); (case k3 => k_mem); (case k4 => k_is); k_whole) | (refine' callWith_F ?k1 ?_; (case k1 => exact FnAt.of (by k_asm) (by k_mem)); k_whole)))
  k_with "!eval Name" => (k_here; kc_free; k_dflt (refine' nameX_F ?N ?c ?m ?d ?_ ?a ?b; (case a => rfl); (case b => rfl); (case N => k_asm); (case c => rfl); (case m => k_mem); (case d => k_asm); k_whole))
  k_with "!exec Return some" => k_extra "exec Return some"
  k_with "!U5" => ((case B => assumption); (case F => k_asm); (case X => assumption); (case T => assumption); (case hf => exact rfl); (case hk => exact rfl); (case N => k_asm); (case hdp => ((try dsimp only); omega)); (case hun => ((try dsimp only); omega)); k_whole)
  k_with "!call ref" => (k_here; (with_reducible show wpAny _ _ (call (Value.ref 166) _) _ _ _); k_dflt (refine' use_mut [] (addchild_spec ?hp ?hc ?hl ?hn) ?B ?F ?X ?T ?hf ?hk ?N ?hs ?hr ?hdp ?hun ?_; (case hs => exact fun _ h => h); (case hr => exact fun _ h => nomatch h); (case hp => assumption); (case hc => assumption); (case hl => assumption); (case hn => assumption); k_extra "!U5"); intro zqv zqx zqh zqtk zqF zqN zqfr zqhx)
  k_steps
  rename News _ _ _ _ => N₃
  rename TreeC.Added _ _ _ _ _ _ _ _ _ _ => hA9
  exact ⟨_, _, _, rfl, by assumption, _, hA9, added_fin N₃ kp⟩

theorem addtext_spec (hp : IsPar vp o) (hc : τ.CanHold o) (hlen : τ.rows.length < 500) (hnd : ((τ.led w).map (·.1)).Nodup) :
    Spec w (.ref 180) [.ref τ.aT, vp, .str k1 u1] 13 (τ.led w) (AddPost w τ o (Str.ofString "text") (Str.ofString "") (Str.ofString "") (Str.ofString "") k1 h) h := by
  have hh := hp.handed
  refine enter (binds := [(Str.ofString "self", .ref τ.aT), (Str.ofString "parent", vp), (Str.ofString "value", .str k1 u1)]) (by k_is) (by k_is) (fun s => BindsTo.of_eq rfl) (locs rfl) rfl rfl rfl (by decide) ?_
  intro dp un gd env outer A₀ base g L' h₁ p loose mean mg mb gs ds tk os B X T F N lt hdp hun kp
  k_fold
  k_with_none
  k_with "!c1" => first | assumption | exact And.right (by k_extra "!c2") | fail
  k_with "!c2" => first | assumption | exact And.right (by k_extra "!c3") | fail
  k_with "!c3" => first | assumption | exact And.right (by k_extra "!c4") | fail
  k_with "!c4" => first | assumption | exact And.right (by k_extra "!c5") | fail
  k_with "!c5" => first | assumption | exact And.right (by k_extra "!c6") | fail
  k_with "!c6" => first | assumption | exact And.right (by k_extra "!c7") | fail
  k_with "!c7" => first | assumption | exact And.right (by k_extra "!c8") | fail
  k_with "!c8" => assumption
  k_with "!lt9" => with_reducible first | exact And.left (by k_extra "!c1") | exact And.right (by k_extra "!c1") | fail
  k_with "!omega" => with_reducible first | exact lt_dp (by assumption) (by with_unfolding_all exact rfl) | exact lt_un (by assumption) (by with_unfolding_all exact rfl) | assumption | exact Ne.symm (by assumption) | exact Nat.ne_of_lt (by assumption) | exact Nat.ne_of_gt (by assumption) | exact le_big (by assumption) (by with_unfolding_all exact rfl) | exact le_big2 (by assumption) (by with_unfolding_all exact rfl) | exact lt_big (by assumption) (by with_unfolding_all exact rfl) | exact Nat.le_of_ble_eq_true (by with_unfolding_all exact rfl) | exact Nat.ne_of_gt (lt_s (by assumption)) | exact Nat.ne_of_gt (lt_s (lt_s (by assumption))) | exact Nat.ne_of_gt (lt_s (lt_s (lt_s (by assumption)))) | exact Nat.ne_of_lt (by k_extra "!lt9") | exact Nat.ne_of_gt (by k_extra "!lt9") | (refine Nat.lt_of_lt_of_le ?_ (Nat.le_refl _); k_extra "!lt9") | fail
  k_with "!k_all" => first | exact ne_of_allLt (by assumption) | exact ne_of_allLt (And.right (by assumption)) | exact ne_of_allLt (And.right (And.right (by assumption)))
  k_with "!k_handed" => with_reducible assumption
  k_with "!k_all" => first | exact ne_of_allNe (by assumption) | exact ne_of_allNe (And.right (by assumption)) | exact ne_of_allNe (And.right (And.right (by assumption)))
  k_with "!call ref" => k_extra "call ref"
  k_with "!k_all" => first | exact ne_of_lts2 (by assumption) | (with_reducible assumption)
  k_with "!k_mem" => assumption
  k_with "!callWith ref" => (k_here; k_dflt (first | (refine' callWith_K ?k1 ?k2 ?_; (case k1 => k_asm); (case k2 => k_is); k_whole) | (refine' callWith_K0 ?k1 ?k2 ?_; (case k1 => k_in); (case k2 => k_is); k_whole) | (refine' callWith_M0 ?k1 ?k2 ?_; (case k1 => k_meth); (case k2 => k_is); k_whole; try dsimp only [List.nil_append, List.cons_append]) | (refine' callWith_M ?k1 ?k2 ?k3 ?k4 ?_; (case k1 => k_asm); (case k2 => k_asm); (case k3 => k_mem); (case k4 => k_is); k_whole) | (refine' callWith_F ?k1 ?_; (case k1 => exact FnAt.of (by k_asm) (by k_mem)); k_whole)))
  k_with "!eval Name" => (k_here; kc_free; k_dflt (refine' nameX_F ?N ?c ?m ?d ?_ ?a ?b; (case a => rfl); (case b => rfl); (case N => k_asm); (case c => rfl); (case m => k_mem); (case d => k_asm); k_whole))
  k_with "!exec Return some" => k_extra "exec Return some"
  k_with "!U5" => ((case B => assumption); (case F => k_asm); (case X => assumption); (case T => assumption); (case hf => exact rfl); (case hk => exact rfl); (case N => k_asm); (case hdp => ((try dsimp only); omega)); (case hun => ((try dsimp only); omega)); k_whole)
  k_with "!call ref" => (k_here; (with_reducible show wpAny _ _ (call (Value.ref 166) _) _ _ _); k_dflt (refine' use_mut [] (addchild_spec ?hp ?hc ?hl ?hn) ?B ?F ?X ?T ?hf ?hk ?N ?hs ?hr ?hdp ?hun ?_; (case hs => exact fun _ h => h); (case hr => exact fun _ h => nomatch h); (case hp => assumption); (case hc => assumption); (case hl => assumption); (case hn => assumption); k_extra "!U5"); intro zqv zqx zqh zqtk zqF zqN zqfr zqhx)
  k_steps
  rename News _ _ _ _ => N₃
  rename TreeC.Added _ _ _ _ _ _ _ _ _ _ => hA9
  exact ⟨_, _, _, rfl, by assumption, _, hA9, added_fin N₃ kp⟩

theorem addcomment_spec (hp : IsPar vp o) (hc : τ.CanHold o) (hlen : τ.rows.length < 500) (hnd : ((τ.led w).map (·.1)).Nodup) :
    Spec w (.ref 187) [.ref τ.aT, vp, .str k1 u1] 13 (τ.led w) (AddPost w τ o (Str.ofString "comment") (Str.ofString "") (Str.ofString "") (Str.ofString "") k1 h) h := by
  have hh := hp.handed
  refine enter (binds := [(Str.ofString "self", .ref τ.aT), (Str.ofString "parent", vp), (Str.ofString "value", .str k1 u1)]) (by k_is) (by k_is) (fun s => BindsTo.of_eq rfl) (locs rfl) rfl rfl rfl (by decide) ?_
  intro dp un gd env outer A₀ base g L' h₁ p loose mean mg mb gs ds tk os B X T F N lt hdp hun kp
  k_fold
  k_with_none
  k_with "!c1" => first | assumption | exact And.right (by k_extra "!c2") | fail
  k_with "!c2" => first | assumption | exact And.right (by k_extra "!c3") | fail
  k_with "!c3" => first | assumption | exact And.right (by k_extra "!c4") | fail
  k_with "!c4" => first | assumption | exact And.right (by k_extra "!c5") | fail
  k_with "!c5" => first | assumption | exact And.right (by k_extra "!c6") | fail
  k_with "!c6" => first | assumption | exact And.right (by k_extra "!c7") | fail
  k_with "!c7" => first | assumption | exact And.right (by k_extra "!c8") | fail
  k_with "!c8" => assumption
  k_with "!lt9" => with_reducible first | exact And.left (by k_extra "!c1") | exact And.right (by k_extra "!c1") | fail
  k_with "!omega" => with_reducible first | exact lt_dp (by assumption) (by with_unfolding_all exact rfl) | exact lt_un (by assumption) (by with_unfolding_all exact rfl) | assumption | exact Ne.symm (by assumption) | exact Nat.ne_of_lt (by assumption) | exact Nat.ne_of_gt (by assumption) | exact le_big (by assumption) (by with_unfolding_all exact rfl) | exact le_big2 (by assumption) (by with_unfolding_all exact rfl) | exact lt_big (by assumption) (by with_unfolding_all exact rfl) | exact Nat.le_of_ble_eq_true (by with_unfolding_all exact rfl) | exact Nat.ne_of_gt (lt_s (by assumption)) | exact Nat.ne_of_gt (lt_s (lt_s (by assumption))) | exact Nat.ne_of_gt (lt_s (lt_s (lt_s (by assumption)))) | exact Nat.ne_of_lt (by k_extra "!lt9") | exact Nat.ne_of_gt (by k_extra "!lt9") | (refine Nat.lt_of_lt_of_le ?_ (Nat.le_refl _); k_extra "!lt9") | fail
  k_with "!k_all" => first | exact ne_of_allLt (by assumption) | exact ne_of_allLt (And.right (by assumption)) | exact ne_of_allLt (And.right (And.right (by assumption)))
  k_with "!k_handed" => with_reducible assumption
  k_with "!k_all" => first | exact ne_of_allNe (by assumption) | exact ne_of_allNe (And.right (by assumption)) | exact ne_of_allNe (And.right (And.right (by assumption)))
  k_with "!call ref" => k_extra "call ref"
  k_with "!k_all" => first | exact ne_of_lts2 (by assumption) | (with_reducible assumption)
  k_with "!k_mem" => assumption
  k_with "!callWith ref" => (k_here; k_dflt (first | (refine' callWith_K ?k1 ?k2 ?_; (case k1 => k_asm); (case k2 => k_is); k_whole) | (refine' callWith_K0 ?k1 ?k2 ?_; (case k1 => k_in); (case k2 => k_is); k_whole) | (refine' callWith_M0 ?k1 ?k2 ?_; (case k1 => k_meth); (case k2 => k_is); k_whole; try dsimp only [List.nil_append, List.cons_append]) | (refine' callWith_M ?k1 ?k2 ?k3 ?k4 ?_; (case k1 => k_asm); (case k2 => k_asm); (case k3 => k_mem); (case k4 => k_is); k_whole) | (refine' callWith_F ?k1 ?_; (case k1 => exact FnAt.of (by k_asm) (by k_mem)); k_whole)))
  k_with "!eval Name" => (k_here; kc_free; k_dflt (refine' nameX_F ?N ?c ?m ?d ?_ ?a ?b; (case a => rfl); (case b => rfl); (case N => k_asm); (case c => rfl); (case m => k_mem); (case d => k_asm); k_whole))
  k_with "!exec Return some" => k_extra "exec Return some"
  k_with "!U5" => ((case B => assumption); (case F => k_asm); (case X => assumption); (case T => assumption); (case hf => exact rfl); (case hk => exact rfl); (case N => k_asm); (case hdp => ((try dsimp only); omega)); (case hun => ((try dsimp only); omega)); k_whole)
  k_with "!call ref" => (k_here; (with_reducible show wpAny _ _ (call (Value.ref 166) _) _ _ _); k_dflt (refine' use_mut [] (addchild_spec ?hp ?hc ?hl ?hn) ?B ?F ?X ?T ?hf ?hk ?N ?hs ?hr ?hdp ?hun ?_; (case hs => exact fun _ h => h); (case hr => exact fun _ h => nomatch h); (case hp => assumption); (case hc => assumption); (case hl => assumption); (case hn => assumption); k_extra "!U5"); intro zqv zqx zqh zqtk zqF zqN zqfr zqhx)
  k_steps
  rename News _ _ _ _ => N₃
  rename TreeC.Added _ _ _ _ _ _ _ _ _ _ => hA9
  exact ⟨_, _, _, rfl, by assumption, _, hA9, added_fin N₃ kp⟩

theorem addinstruction_spec (hp : IsPar vp o) (hc : τ.CanHold o) (hlen : τ.rows.length < 500) (hnd : ((τ.led w).map (·.1)).Nodup) :
    Spec w (.ref 194) [.ref τ.aT, vp, .str k1 u1, .str k2 u2] 13 (τ.led w) (AddPost w τ o (Str.ofString "instruction") k1 (Str.ofString "") k1 k2 h) h := by
  have hh := hp.handed
  refine enter (binds := [(Str.ofString "self", .ref τ.aT), (Str.ofString "parent", vp), (Str.ofString "target", .str k1 u1), (Str.ofString "data", .str k2 u2)]) (by k_is) (by k_is) (fun s => BindsTo.of_eq rfl) (locs rfl) rfl rfl rfl (by decide) ?_
  intro dp un gd env outer A₀ base g L' h₁ p loose mean mg mb gs ds tk os B X T F N lt hdp hun kp
  k_fold
  k_with_none
  k_with "!c1" => first | assumption | exact And.right (by k_extra "!c2") | fail
  k_with "!c2" => first | assumption | exact And.right (by k_extra "!c3") | fail
  k_with "!c3" => first | assumption | exact And.right (by k_extra "!c4") | fail
  k_with "!c4" => first | assumption | exact And.right (by k_extra "!c5") | fail
  k_with "!c5" => first | assumption | exact And.right (by k_extra "!c6") | fail
  k_with "!c6" => first | assumption | exact And.right (by k_extra "!c7") | fail
  k_with "!c7" => first | assumption | exact And.right (by k_extra "!c8") | fail
  k_with "!c8" => assumption
  k_with "!lt9" => with_reducible first | exact And.left (by k_extra "!c1") | exact And.right (by k_extra "!c1") | fail
  k_with "!omega" => with_reducible first | exact lt_dp (by assumption) (by with_unfolding_all exact rfl) | exact lt_un (by assumption) (by with_unfolding_all exact rfl) | assumption | exact Ne.symm (by assumption) | exact Nat.ne_of_lt (by assumption) | exact Nat.ne_of_gt (by assumption) | exact le_big (by assumption) (by with_unfolding_all exact rfl) | exact le_big2 (by assumption) (by with_unfolding_all exact rfl) | exact lt_big (by assumption) (by with_unfolding_all exact rfl) | exact Nat.le_of_ble_eq_true (by with_unfolding_all exact rfl) | exact Nat.ne_of_gt (lt_s (by assumption)) | exact Nat.ne_of_gt (lt_s (lt_s (by assumption))) | exact Nat.ne_of_gt (lt_s (lt_s (lt_s (by assumption)))) | exact Nat.ne_of_lt (by k_extra "!lt9") | exact Nat.ne_of_gt (by k_extra "!lt9") | (refine Nat.lt_of_lt_of_le ?_ (Nat.le_refl _); k_extra "!lt9") | fail
  k_with "!k_all" => first | exact ne_of_allLt (by assumption) | exact ne_of_allLt (And.right (by assumption)) | exact ne_of_allLt (And.right (And.right (by assumption)))
  k_with "!k_handed" => with_reducible assumption
  k_with "!k_all" => first | exact ne_of_allNe (by assumption) | exact ne_of_allNe (And.right (by assumption)) | exact ne_of_allNe (And.right (And.right (by assumption)))
  k_with "!call ref" => k_extra "call ref"
  k_with "!k_all" => first | exact ne_of_lts2 (by assumption) | (with_reducible assumption)
  k_with "!k_mem" => assumption
  k_with "!callWith ref" => (k_here; k_dflt (first | (refine' callWith_K ?k1 ?k2 ?_; (case k1 => k_asm); (case k2 => k_is); k_whole) | (refine' callWith_K0 ?k1 ?k2 ?_; (case k1 => k_in); (case k2 => k_is); k_whole) | (refine' callWith_M0 ?k1 ?k2 ?_; (case k1 => k_meth); (case k2 => k_is); k_whole; try dsimp only [List.nil_append, List.cons_append]) | (refine' callWith_M ?k1 ?k2 ?k3 ?k4 ?_; (case k1 => k_asm); (case k2 => k_asm); (case k3 => k_mem); (case k4 => k_is); k_whole) | (refine' callWith_F ?k1 ?_; (case k1 => exact FnAt.of (by k_asm) (by k_mem)); k_whole)))
  k_with "!eval Name" => (k_here; kc_free; k_dflt (refine' nameX_F ?N ?c ?m ?d ?_ ?a ?b; (case a => rfl); (case b => rfl); (case N => k_asm); (case c => rfl); (case m => k_mem); (case d => k_asm); k_whole))
  k_with "!exec Return some" => k_extra "exec Return some"
  k_with "!U5" => ((case B => assumption); (case F => k_asm); (case X => assumption); (case T => assumption); (case hf => exact rfl); (case hk => exact rfl); (case N => k_asm); (case hdp => ((try dsimp only); omega)); (case hun => ((try dsimp only); omega)); k_whole)
  k_with "!call ref" => (k_here; (with_reducible show wpAny _ _ (call (Value.ref 166) _) _ _ _); k_dflt (refine' use_mut [] (addchild_spec ?hp ?hc ?hl ?hn) ?B ?F ?X ?T ?hf ?hk ?N ?hs ?hr ?hdp ?hun ?_; (case hs => exact fun _ h => h); (case hr => exact fun _ h => nomatch h); (case hp => assumption); (case hc => assumption); (case hl => assumption); (case hn => assumption); k_extra "!U5"); intro zqv zqx zqh zqtk zqF zqN zqfr zqhx)
  k_steps
  rename News _ _ _ _ => N₃
  rename TreeC.Added _ _ _ _ _ _ _ _ _ _ => hA9
  exact ⟨_, _, _, rfl, by assumption, _, hA9, added_fin N₃ kp⟩

end
end
section
example : True := by
  w_top off
  k_with_none
  k_with "!c1" => first | assumption | exact And.right (by k_extra "!c2") | fail
  k_with "!c2" => first | assumption | exact And.right (by k_extra "!c3") | fail
  k_with "!c3" => first | assumption | exact And.right (by k_extra "!c4") | fail
  k_with "!c4" => first | assumption | exact And.right (by k_extra "!c5") | fail
  k_with "!c5" => first | assumption | exact And.right (by k_extra "!c6") | fail
  k_with "!c6" => first | assumption | exact And.right (by k_extra "!c7") | fail
  k_with "!c7" => first | assumption | exact And.right (by k_extra "!c8") | fail
  k_with "!c8" => assumption
  k_with "!lt9" => with_reducible first | exact And.left (by k_extra "!c1") | exact And.right (by k_extra "!c1") | fail
  k_with "!omega" => with_reducible first | exact lt_dp (by assumption) (by with_unfolding_all exact rfl) | exact lt_un (by assumption) (by with_unfolding_all exact rfl) | assumption | exact Ne.symm (by assumption) | exact Nat.ne_of_lt (by assumption) | exact Nat.ne_of_gt (by assumption) | exact le_big (by assumption) (by with_unfolding_all exact rfl) | exact le_big2 (by assumption) (by with_unfolding_all exact rfl) | exact lt_big (by assumption) (by with_unfolding_all exact rfl) | exact Nat.le_of_ble_eq_true (by with_unfolding_all exact rfl) | exact Nat.ne_of_gt (lt_s (by assumption)) | exact Nat.ne_of_gt (lt_s (lt_s (by assumption))) | exact Nat.ne_of_gt (lt_s (lt_s (lt_s (by assumption)))) | exact Nat.ne_of_lt (by k_extra "!lt9") | exact Nat.ne_of_gt (by k_extra "!lt9") | (refine Nat.lt_of_lt_of_le ?_ (Nat.le_refl _); k_extra "!lt9") | fail
  k_with "!item" => first | (k_here; (with_reducible show wpAny _ _ (subscriptTail _ _ (Value.ref _) (Value.int _ _)) _ _ _); k_dflt (refine' kim_list ?N ?m ?c ?d ?z ?f ?x ?_; (case N => k_asm); (case m => k_mem); (case c => rfl); (case d => rfl); (case z => omega); (case f => omega); (case x => (try simp only [Int.toNat_natCast]); first | assumption | rfl | exact List.getElem?_eq_getElem (by omega)); k_whole)) | (k_here; (with_reducible show wpAny _ _ (subscriptTail _ _ (Value.ref _) (Value.int _ _)) _ _ _); k_dflt (refine' kda_item (knd := PySem.intKind _ _) ?N ?m ?d (intKind_is _ _ _ _) ?v ?_; (case N => k_asm); (case d => assumption); (case m => k_mem); (case v => assumption); k_whole))
  k_with "!subscriptTail" => k_extra "!item"
  k_with "!subscriptTail Name Name ref int" => k_extra "!item"
  k_with "!k_all" => first | exact ne_of_allLt (by assumption) | exact ne_of_allLt (And.right (by assumption)) | exact ne_of_allLt (And.right (And.right (by assumption)))
  k_with "!sub" => first | exact fun _ h => h | (with_reducible assumption) | exact sub_app (by assumption) | exact sub_app (fun _ h => h) | exact (fun _ h => List.mem_append_right _ h) | (refine sub_cc ?_; k_extra "!sub") | (refine sub_tl ?_; k_extra "!sub")
  k_with "!U" => ((case B => assumption); (case F => k_asm); (case X => assumption); (case T => assumption); (case hf => exact rfl); (case hk => exact rfl); (case N => k_asm); (case hs => k_extra "!sub"); (case hdp => ((try dsimp only); omega)); (case hun => ((try dsimp only); omega)); k_whole)
  k_with "!k_handed" => with_reducible assumption
  k_with "!k_all" => first | exact ne_of_allNe (by assumption) | exact ne_of_allNe (And.right (by assumption)) | exact ne_of_allNe (And.right (And.right (by assumption)))
  k_with "!call ref" => k_extra "call ref"
  k_with "!k_all" => first | exact ne_of_lts2 (by assumption) | (with_reducible assumption)
  k_with "!k_mem" => assumption
  k_with "!callWith ref" => (k_here; k_dflt (first | (refine' callWith_K ?k1 ?k2 ?_; (case k1 => k_asm); (case k2 => k_is); k_whole) | (refine' callWith_K0 ?k1 ?k2 ?_; (case k1 => k_in); (case k2 => k_is); k_whole) | (refine' callWith_M0 ?k1 ?k2 ?_; (case k1 => k_meth); (case k2 => k_is); k_whole; try dsimp only [List.nil_append, List.cons_append]) | (refine' callWith_M ?k1 ?k2 ?k3 ?k4 ?_; (case k1 => k_asm); (case k2 => k_asm); (case k3 => k_mem); (case k4 => k_is); k_whole) | (refine' callWith_F ?k1 ?_; (case k1 => exact FnAt.of (by k_asm) (by k_mem)); k_whole)))
  k_with "!exec For Name Attribute cons nil" => k_extra "exec For"
  k_with "!pyIter ref" => k_extra "pyIter ref"
  k_with "!eval Name" => (k_here; kc_free; k_dflt (refine' nameX_F ?N ?c ?m ?d ?_ ?a ?b; (case a => rfl); (case b => rfl); (case N => k_asm); (case c => rfl); (case m => k_mem); (case d => k_asm); k_whole))
  k_with "!exec Return some" => k_extra "exec Return some"
  k_with "!U5" => ((case B => assumption); (case F => k_asm); (case X => assumption); (case T => assumption); (case hf => exact rfl); (case hk => exact rfl); (case N => k_asm); (case hdp => ((try dsimp only); omega)); (case hun => ((try dsimp only); omega)); k_whole)
  trivial
theorem newroot_spec {w : World} {τ : TreeC} (hlen : τ.rows.length < 500) (hnd : ((τ.led w).map (·.1)).Nodup) {h : Heap} :
    Spec w (.ref 159) [.ref τ.aT] 9 (τ.led w) (AddPost w τ none (Str.ofString "root") (Str.ofString "") (Str.ofString "") (Str.ofString "") (Str.ofString "") h) h := by
  refine enter (binds := [(Str.ofString "self", .ref τ.aT)]) (by k_is) (by k_is) (fun s => BindsTo.of_eq rfl) (locs rfl) rfl rfl rfl (by decide) ?_
  intro dp un gd env outer A₀ base g L' h₁ p loose mean mg mb gs ds tk os B X T F N lt hdp hun kp
  k_fold
  k_with_none
  k_with "!c1" => first | assumption | exact And.right (by k_extra "!c2") | fail
  k_with "!c2" => first | assumption | exact And.right (by k_extra "!c3") | fail
  k_with "!c3" => first | assumption | exact And.right (by k_extra "!c4") | fail
  k_with "!c4" => first | assumption | exact And.right (by k_extra "!c5") | fail
  k_with "!c5" => first | assumption | exact And.right (by k_extra "!c6") | fail
  k_with "!c6" => first | assumption | exact And.right (by k_extra "!c7") | fail
  k_with "!c7" => first | assumption | exact And.right (by k_extra "!c8") | fail
  k_with "!c8" => assumption
  k_with "!lt9" => with_reducible first | exact And.left (by k_extra "!c1") | exact And.right (by k_extra "!c1") | fail
  k_with "!omega" => with_reducible first | exact lt_dp (by assumption) (by with_unfolding_all exact rfl) | exact lt_un (by assumption) (by with_unfolding_all exact rfl) | assumption | exact Ne.symm (by assumption) | exact Nat.ne_of_lt (by assumption) | exact Nat.ne_of_gt (by assumption) | exact le_big (by assumption) (by with_unfolding_all exact rfl) | exact le_big2 (by assumption) (by with_unfolding_all exact rfl) | exact lt_big (by assumption) (by with_unfolding_all exact rfl) | exact Nat.le_of_ble_eq_true (by with_unfolding_all exact rfl) | exact Nat.ne_of_gt (lt_s (by assumption)) | exact Nat.ne_of_gt (lt_s (lt_s (by assumption))) | exact Nat.ne_of_gt (lt_s (lt_s (lt_s (by assumption)))) | exact Nat.ne_of_lt (by k_extra "!lt9") | exact Nat.ne_of_gt (by k_extra "!lt9") | (refine Nat.lt_of_lt_of_le ?_ (Nat.le_refl _); k_extra "!lt9") | fail
  k_with "!item" => first | (k_here; (with_reducible show wpAny _ _ (subscriptTail _ _ (Value.ref _) (Value.int _ _)) _ _ _); k_dflt (refine' kim_list ?N ?m ?c ?d ?z ?f ?x ?_; (case N => k_asm); (case m => k_mem); (case c => rfl); (case d => rfl); (case z => omega); (case f => omega); (case x => (try simp only [Int.toNat_natCast]); first | assumption | rfl | exact List.getElem?_eq_getElem (by omega)); k_whole)) | (k_here; (with_reducible show wpAny _ _ (subscriptTail _ _ (Value.ref _) (Value.int _ _)) _ _ _); k_dflt (refine' kda_item (knd := PySem.intKind _ _) ?N ?m ?d (intKind_is _ _ _ _) ?v ?_; (case N => k_asm); (case d => assumption); (case m => k_mem); (case v => assumption); k_whole))
  k_with "!subscriptTail" => k_extra "!item"
  k_with "!subscriptTail Name Name ref int" => k_extra "!item"
  k_with "!k_all" => first | exact ne_of_allLt (by assumption) | exact ne_of_allLt (And.right (by assumption)) | exact ne_of_allLt (And.right (And.right (by assumption)))
  k_with "!sub" => first | exact fun _ h => h | (with_reducible assumption) | exact sub_app (by assumption) | exact sub_app (fun _ h => h) | exact (fun _ h => List.mem_append_right _ h) | (refine sub_cc ?_; k_extra "!sub") | (refine sub_tl ?_; k_extra "!sub")
  k_with "!U" => ((case B => assumption); (case F => k_asm); (case X => assumption); (case T => assumption); (case hf => exact rfl); (case hk => exact rfl); (case N => k_asm); (case hs => k_extra "!sub"); (case hdp => ((try dsimp only); omega)); (case hun => ((try dsimp only); omega)); k_whole)
  k_with "!k_handed" => with_reducible assumption
  k_with "!k_all" => first | exact ne_of_allNe (by assumption) | exact ne_of_allNe (And.right (by assumption)) | exact ne_of_allNe (And.right (And.right (by assumption)))
  k_with "!call ref" => k_extra "call ref"
  k_with "!k_all" => first | exact ne_of_lts2 (by assumption) | (with_reducible assumption)
  k_with "!k_mem" => assumption
  k_with "!callWith ref" => (k_here; k_dflt (first | (refine' callWith_K ?k1 ?k2 ?_; (case k1 => k_asm); (case k2 => k_is); k_whole) | (refine' callWith_K0 ?k1 ?k2 ?_; (case k1 => k_in); (case k2 => k_is); k_whole) | (refine' callWith_M0 ?k1 ?k2 ?_; (case k1 => k_meth); (case k2 => k_is); k_whole; try dsimp only [List.nil_append, List.cons_append]) | (refine' callWith_M ?k1 ?k2 ?k3 ?k4 ?_; (case k1 => k_asm); (case k2 => k_asm); (case k3 => k_mem); (case k4 => k_is); k_whole) | (refine' callWith_F ?k1 ?_; (case k1 => exact FnAt.of (by k_asm) (by k_mem)); k_whole)))
  k_with "!exec For Name Attribute cons nil" => k_extra "exec For"
  k_with "!pyIter ref" => k_extra "pyIter ref"
  k_with "!eval Name" => (k_here; kc_free; k_dflt (refine' nameX_F ?N ?c ?m ?d ?_ ?a ?b; (case a => rfl); (case b => rfl); (case N => k_asm); (case c => rfl); (case m => k_mem); (case d => k_asm); k_whole))
  k_with "!exec Return some" => k_extra "exec Return some"
  k_with "!U5" => ((case B => assumption); (case F => k_asm); (case X => assumption); (case T => assumption); (case hf => exact rfl); (case hk => exact rfl); (case N => k_asm); (case hdp => ((try dsimp only); omega)); (case hun => ((try dsimp only); omega)); k_whole)
  have hap := TreeC.apart hnd
  k_with "call ref" =>
    first
    | (refine' use_mut (τ.rows.flatMap (RowC.led w)) (newrow_spec (o := none) (rs := τ.refs) rfl (by simpa [TreeC.refs] using Nat.lt_of_lt_of_le hlen (by decide)) hap.ne2 hap.ne4) ?B ?F ?X ?T ?hf ?hk ?N ?hs ?hr ?hdp ?hun ?_
       case hs => exact TreeC.top_sub
       case hr => exact hap.rest
       walk_at "U5"
       intro v' x' h' tk' F' N' fr' hx'
       obtain ⟨⟨tv', hv'⟩, hR', hfr'⟩ := hx'
       rw [show τ.refs.length = τ.rows.length from by simp [TreeC.refs]] at hv'
       subst hv'
       have frR : ∀ q ∈ x'.1.led w, ∀ p ∈ τ.led w, p.1 ≠ q.1 := fun q hq => fr' _ (hfr' q hq))
  k_steps
  rename News _ _ _ _ => N₃
  rename NewRow _ _ _ _ _ _ _ _ => hR9
  rename (∀ q ∈ RowC.led _ _, ∀ p ∈ TreeC.led _ _, _) => fr9
  obtain ⟨hr1, hr2⟩ := push_fin hnd hR9.nodup fr9 N₃ kp
  exact ⟨_, _, _, rfl, by assumption, _, ⟨_, _, _, _, _, _, _, _, _, rfl, hR9, rfl, hr1, .inl ⟨rfl, rfl⟩⟩, hr2⟩

theorem elementrow_spec {w : World} {τ : TreeC} {j : Nat} {P : RowC} {tkp tj : Tok} {FP : List (Addr × Obj)} {h : Heap} (hs : ∀ q ∈ τ.led w, q ∈ FP) (hP : τ.rows[j]? = some P) (hk : P.vk = .str (Str.ofString "element") tkp) (hlen : τ.rows.length < 500) :
    Spec w (.ref 201) [.ref τ.aT, .int j tj] 6 FP (fun v h' => v = .ref P.r ∧ ∀ q ∈ FP, h'.get? q.1 = some q.2) h := by
  refine enter (binds := [(Str.ofString "self", .ref τ.aT), (Str.ofString "element", .int j tj)]) (by k_is) (by k_is) (fun s => BindsTo.of_eq rfl) (locs rfl) rfl rfl rfl (by decide) ?_
  intro dp un gd env outer A₀ base g L' h₁ p loose mean mg mb gs ds tk os B X T F N lt hdp hun kp
  k_fold
  k_with_none
  k_with "!c1" => first | assumption | exact And.right (by k_extra "!c2") | fail
  k_with "!c2" => first | assumption | exact And.right (by k_extra "!c3") | fail
  k_with "!c3" => first | assumption | exact And.right (by k_extra "!c4") | fail
  k_with "!c4" => first | assumption | exact And.right (by k_extra "!c5") | fail
  k_with "!c5" => first | assumption | exact And.right (by k_extra "!c6") | fail
  k_with "!c6" => first | assumption | exact And.right (by k_extra "!c7") | fail
  k_with "!c7" => first | assumption | exact And.right (by k_extra "!c8") | fail
  k_with "!c8" => assumption
  k_with "!lt9" => with_reducible first | exact And.left (by k_extra "!c1") | exact And.right (by k_extra "!c1") | fail
  k_with "!omega" => with_reducible first | exact lt_dp (by assumption) (by with_unfolding_all exact rfl) | exact lt_un (by assumption) (by with_unfolding_all exact rfl) | assumption | exact Ne.symm (by assumption) | exact Nat.ne_of_lt (by assumption) | exact Nat.ne_of_gt (by assumption) | exact le_big (by assumption) (by with_unfolding_all exact rfl) | exact le_big2 (by assumption) (by with_unfolding_all exact rfl) | exact lt_big (by assumption) (by with_unfolding_all exact rfl) | exact Nat.le_of_ble_eq_true (by with_unfolding_all exact rfl) | exact Nat.ne_of_gt (lt_s (by assumption)) | exact Nat.ne_of_gt (lt_s (lt_s (by assumption))) | exact Nat.ne_of_gt (lt_s (lt_s (lt_s (by assumption)))) | exact Nat.ne_of_lt (by k_extra "!lt9") | exact Nat.ne_of_gt (by k_extra "!lt9") | (refine Nat.lt_of_lt_of_le ?_ (Nat.le_refl _); k_extra "!lt9") | fail
  k_with "!item" => first | (k_here; (with_reducible show wpAny _ _ (subscriptTail _ _ (Value.ref _) (Value.int _ _)) _ _ _); k_dflt (refine' kim_list ?N ?m ?c ?d ?z ?f ?x ?_; (case N => k_asm); (case m => k_mem); (case c => rfl); (case d => rfl); (case z => omega); (case f => omega); (case x => (try simp only [Int.toNat_natCast]); first | assumption | rfl | exact List.getElem?_eq_getElem (by omega)); k_whole)) | (k_here; (with_reducible show wpAny _ _ (subscriptTail _ _ (Value.ref _) (Value.int _ _)) _ _ _); k_dflt (refine' kda_item (knd := PySem.intKind _ _) ?N ?m ?d (intKind_is _ _ _ _) ?v ?_; (case N => k_asm); (case d => assumption); (case m => k_mem); (case v => assumption); k_whole))
  k_with "!subscriptTail" => k_extra "!item"
  k_with "!subscriptTail Name Name ref int" => k_extra "!item"
  k_with "!k_all" => first | exact ne_of_allLt (by assumption) | exact ne_of_allLt (And.right (by assumption)) | exact ne_of_allLt (And.right (And.right (by assumption)))
  k_with "!sub" => first | exact fun _ h => h | (with_reducible assumption) | exact sub_app (by assumption) | exact sub_app (fun _ h => h) | exact (fun _ h => List.mem_append_right _ h) | (refine sub_cc ?_; k_extra "!sub") | (refine sub_tl ?_; k_extra "!sub")
  k_with "!U" => ((case B => assumption); (case F => k_asm); (case X => assumption); (case T => assumption); (case hf => exact rfl); (case hk => exact rfl); (case N => k_asm); (case hs => k_extra "!sub"); (case hdp => ((try dsimp only); omega)); (case hun => ((try dsimp only); omega)); k_whole)
  k_with "!k_handed" => with_reducible assumption
  k_with "!k_all" => first | exact ne_of_allNe (by assumption) | exact ne_of_allNe (And.right (by assumption)) | exact ne_of_allNe (And.right (And.right (by assumption)))
  k_with "!call ref" => k_extra "call ref"
  k_with "!k_all" => first | exact ne_of_lts2 (by assumption) | (with_reducible assumption)
  k_with "!k_mem" => assumption
  k_with "!callWith ref" => (k_here; k_dflt (first | (refine' callWith_K ?k1 ?k2 ?_; (case k1 => k_asm); (case k2 => k_is); k_whole) | (refine' callWith_K0 ?k1 ?k2 ?_; (case k1 => k_in); (case k2 => k_is); k_whole) | (refine' callWith_M0 ?k1 ?k2 ?_; (case k1 => k_meth); (case k2 => k_is); k_whole; try dsimp only [List.nil_append, List.cons_append]) | (refine' callWith_M ?k1 ?k2 ?k3 ?k4 ?_; (case k1 => k_asm); (case k2 => k_asm); (case k3 => k_mem); (case k4 => k_is); k_whole) | (refine' callWith_F ?k1 ?_; (case k1 => exact FnAt.of (by k_asm) (by k_mem)); k_whole)))
  k_with "!exec For Name Attribute cons nil" => k_extra "exec For"
  k_with "!pyIter ref" => k_extra "pyIter ref"
  k_with "!eval Name" => (k_here; kc_free; k_dflt (refine' nameX_F ?N ?c ?m ?d ?_ ?a ?b; (case a => rfl); (case b => rfl); (case N => k_asm); (case c => rfl); (case m => k_mem); (case d => k_asm); k_whole))
  k_with "!exec Return some" => k_extra "exec Return some"
  k_with "!U5" => ((case B => assumption); (case F => k_asm); (case X => assumption); (case T => assumption); (case hf => exact rfl); (case hk => exact rfl); (case N => k_asm); (case hdp => ((try dsimp only); omega)); (case hun => ((try dsimp only); omega)); k_whole)
  have hT1 := hs _ (.head _)
  have hT2 := hs _ (.tail _ (.head _))
  have hP1 := hs _ (TreeC.at (w := w) hP _ (.head _))
  have hP2 := hs _ (TreeC.at (w := w) hP _ (.tail _ (.head _)))
  simp only [RowC.dict] at hP2
  rw [hk] at hP2
  k_with "call ref" =>
    first
    | (refine' use_ro (rowT (FP := FP) hs hP (by omega)) ?B ?F ?X ?T ?hf ?hk ?N ?hs ?hdp ?hun ?_
       walk_at "U"
       intro v' h' tk' F' N' ka' hv'
       subst hv')
  k_steps
  rename News _ _ _ _ => N₃
  exact ⟨_, _, _, rfl, by assumption, rfl, led_of N₃ (by walk_at "sub")⟩

/-- a store that has grown by one row, put among the attributes of an element -/
def TreeC.AddedA (w : World) (τ : TreeC) (j : Nat) (k n u l v : Str) (val : Value) (x : TreeC) : Prop :=
  ∃ tv R e vp t1 t2 t3 t4 t5 P tc ec, val = .int τ.rows.length tv ∧ NewRow w R (.str k t1) (.str n t2) (.str u t3) (.str l t4) (.str v t5) vp ∧ IsPar vp (some j) ∧ ((x.led w).map (·.1)).Nodup ∧
    τ.rows[j]? = some P ∧ x = τ.push (τ.rows.set j { P with as := P.as ++ [.int τ.rows.length tc], ea := ec }) R e
def TreeC.AddedN (w : World) (τ : TreeC) (j : Nat) (k n u l v : Str) (val : Value) (x : TreeC) : Prop :=
  ∃ tv R e vp t1 t2 t3 t4 t5 P tc ec, val = .int τ.rows.length tv ∧ NewRow w R (.str k t1) (.str n t2) (.str u t3) (.str l t4) (.str v t5) vp ∧ IsPar vp (some j) ∧ ((x.led w).map (·.1)).Nodup ∧
    τ.rows[j]? = some P ∧ x = τ.push (τ.rows.set j { P with ns := P.ns ++ [.int τ.rows.length tc], en := ec }) R e

theorem setattr_spec {w : World} {τ : TreeC} {j : Nat} {P : RowC} (hP : τ.rows[j]? = some P) {tkp : Tok} (hk : P.vk = .str (Str.ofString "element") tkp) (hlen : τ.rows.length < 500) (hcs : P.as.length < 500)
    {k2 k3 k4 k5 : Str} (hat : ∀ v ∈ P.as, ∃ i t Ri su tu sl tl, v = .int ((i : Nat) : Int) t ∧ τ.rows[i]? = some Ri ∧ Ri.vu = .str su tu ∧ Ri.vl = .str sl tl ∧ sl ≠ k4)
    (hnd : ((τ.led w).map (·.1)).Nodup) {tj u2 u3 u4 u5 : Tok} {h : Heap} :
    Spec w (.ref 208) [.ref τ.aT, .int j tj, .str k2 u2, .str k3 u3, .str k4 u4, .str k5 u5] 10 (τ.led w)
      (fun v h' => ∃ x : TreeC, τ.AddedA w j (Str.ofString "attribute") k2 k3 k4 k5 v x ∧ ∀ q ∈ x.led w, h'.get? q.1 = some q.2 ∧ (q.1 ∈ (τ.led w).map (·.1) ∨ h.get? q.1 = none)) h := by
  refine enter (binds := [(Str.ofString "self", .ref τ.aT), (Str.ofString "element", .int j tj), (Str.ofString "name", .str k2 u2), (Str.ofString "uri", .str k3 u3), (Str.ofString "local", .str k4 u4), (Str.ofString "value", .str k5 u5)]) (by k_is) (by k_is) (fun s => BindsTo.of_eq rfl) (locs rfl) rfl rfl rfl (by decide) ?_
  intro dp un gd env outer A₀ base g L' h₁ p loose mean mg mb gs ds tk os B X T F N lt hdp hun kp
  k_fold
  k_with_none
  k_with "!c1" => first | assumption | exact And.right (by k_extra "!c2") | fail
  k_with "!c2" => first | assumption | exact And.right (by k_extra "!c3") | fail
  k_with "!c3" => first | assumption | exact And.right (by k_extra "!c4") | fail
  k_with "!c4" => first | assumption | exact And.right (by k_extra "!c5") | fail
  k_with "!c5" => first | assumption | exact And.right (by k_extra "!c6") | fail
  k_with "!c6" => first | assumption | exact And.right (by k_extra "!c7") | fail
  k_with "!c7" => first | assumption | exact And.right (by k_extra "!c8") | fail
  k_with "!c8" => assumption
  k_with "!lt9" => with_reducible first | exact And.left (by k_extra "!c1") | exact And.right (by k_extra "!c1") | fail
  k_with "!omega" => with_reducible first | exact lt_dp (by assumption) (by with_unfolding_all exact rfl) | exact lt_un (by assumption) (by with_unfolding_all exact rfl) | assumption | exact Ne.symm (by assumption) | exact Nat.ne_of_lt (by assumption) | exact Nat.ne_of_gt (by assumption) | exact le_big (by assumption) (by with_unfolding_all exact rfl) | exact le_big2 (by assumption) (by with_unfolding_all exact rfl) | exact lt_big (by assumption) (by with_unfolding_all exact rfl) | exact Nat.le_of_ble_eq_true (by with_unfolding_all exact rfl) | exact Nat.ne_of_gt (lt_s (by assumption)) | exact Nat.ne_of_gt (lt_s (lt_s (by assumption))) | exact Nat.ne_of_gt (lt_s (lt_s (lt_s (by assumption)))) | exact Nat.ne_of_lt (by k_extra "!lt9") | exact Nat.ne_of_gt (by k_extra "!lt9") | (refine Nat.lt_of_lt_of_le ?_ (Nat.le_refl _); k_extra "!lt9") | fail
  k_with "!item" => first | (k_here; (with_reducible show wpAny _ _ (subscriptTail _ _ (Value.ref _) (Value.int _ _)) _ _ _); k_dflt (refine' kim_list ?N ?m ?c ?d ?z ?f ?x ?_; (case N => k_asm); (case m => k_mem); (case c => rfl); (case d => rfl); (case z => omega); (case f => omega); (case x => (try simp only [Int.toNat_natCast]); first | assumption | rfl | exact List.getElem?_eq_getElem (by omega)); k_whole)) | (k_here; (with_reducible show wpAny _ _ (subscriptTail _ _ (Value.ref _) (Value.int _ _)) _ _ _); k_dflt (refine' kda_item (knd := PySem.intKind _ _) ?N ?m ?d (intKind_is _ _ _ _) ?v ?_; (case N => k_asm); (case d => assumption); (case m => k_mem); (case v => assumption); k_whole))
  k_with "!subscriptTail" => k_extra "!item"
  k_with "!subscriptTail Name Name ref int" => k_extra "!item"
  k_with "!k_all" => first | exact ne_of_allLt (by assumption) | exact ne_of_allLt (And.right (by assumption)) | exact ne_of_allLt (And.right (And.right (by assumption)))
  k_with "!sub" => first | exact fun _ h => h | (with_reducible assumption) | exact sub_app (by assumption) | exact sub_app (fun _ h => h) | exact (fun _ h => List.mem_append_right _ h) | (refine sub_cc ?_; k_extra "!sub") | (refine sub_tl ?_; k_extra "!sub")
  k_with "!U" => ((case B => assumption); (case F => k_asm); (case X => assumption); (case T => assumption); (case hf => exact rfl); (case hk => exact rfl); (case N => k_asm); (case hs => k_extra "!sub"); (case hdp => ((try dsimp only); omega)); (case hun => ((try dsimp only); omega)); k_whole)
  k_with "!k_handed" => with_reducible assumption
  k_with "!k_all" => first | exact ne_of_allNe (by assumption) | exact ne_of_allNe (And.right (by assumption)) | exact ne_of_allNe (And.right (And.right (by assumption)))
  k_with "!call ref" => k_extra "call ref"
  k_with "!k_all" => first | exact ne_of_lts2 (by assumption) | (with_reducible assumption)
  k_with "!k_mem" => assumption
  k_with "!callWith ref" => (k_here; k_dflt (first | (refine' callWith_K ?k1 ?k2 ?_; (case k1 => k_asm); (case k2 => k_is); k_whole) | (refine' callWith_K0 ?k1 ?k2 ?_; (case k1 => k_in); (case k2 => k_is); k_whole) | (refine' callWith_M0 ?k1 ?k2 ?_; (case k1 => k_meth); (case k2 => k_is); k_whole; try dsimp only [List.nil_append, List.cons_append]) | (refine' callWith_M ?k1 ?k2 ?k3 ?k4 ?_; (case k1 => k_asm); (case k2 => k_asm); (case k3 => k_mem); (case k4 => k_is); k_whole) | (refine' callWith_F ?k1 ?_; (case k1 => exact FnAt.of (by k_asm) (by k_mem)); k_whole)))
  k_with "!exec For Name Attribute cons nil" => k_extra "exec For"
  k_with "!pyIter ref" => k_extra "pyIter ref"
  k_with "!eval Name" => (k_here; kc_free; k_dflt (refine' nameX_F ?N ?c ?m ?d ?_ ?a ?b; (case a => rfl); (case b => rfl); (case N => k_asm); (case c => rfl); (case m => k_mem); (case d => k_asm); k_whole))
  k_with "!exec Return some" => k_extra "exec Return some"
  k_with "!U5" => ((case B => assumption); (case F => k_asm); (case X => assumption); (case T => assumption); (case hf => exact rfl); (case hk => exact rfl); (case N => k_asm); (case hdp => ((try dsimp only); omega)); (case hun => ((try dsimp only); omega)); k_whole)
  have hT1 : (τ.aT, instObj 309 τ.dT) ∈ τ.led w := .head _
  have hT2 : (τ.dT, treeDict w τ.aR τ.t τ.e₁) ∈ τ.led w := .tail _ (.head _)
  have hT3 : (τ.aR, listOf τ.refs.toArray τ.e₂) ∈ τ.led w := .tail _ (.tail _ (.head _))
  have hP1 := TreeC.at (w := w) hP _ (.head _)
  have hP2 := TreeC.at (w := w) hP _ (.tail _ (.head _))
  have hP4 := TreeC.at (w := w) hP _ (.tail _ (.tail _ (.tail _ (.head _))))
  simp only [RowC.dict] at hP2
  have hap := TreeC.apart hnd
  have hns := TreeC.row_nes hnd hP
  have hjl : j < τ.refs.length := (List.getElem?_eq_some_iff.mp (TreeC.ref hP)).1
  have hj2 : j < τ.rows.length := (List.getElem?_eq_some_iff.mp hP).1
  k_with "call ref" =>
    first
    | (refine' use_ro (elementrow_spec (FP := τ.led w) (fun _ h => h) hP hk (by omega)) ?B ?F ?X ?T ?hf ?hk ?N ?hs ?hdp ?hun ?_
       walk_at "U"
       intro v' h' tk' F' N' ka' hv'
       subst hv')
  k_with "pyIter ref" =>
    rename Fr _ _ _ _ => lF
    rename News _ _ _ _ => lN
    refine' iter_my (vs := P.as) (fun k m nx => nx = τ.led w ∧ m (Str.ofString "self") = some (.ref τ.aT) ∧ m (Str.ofString "row") = some (.ref P.r) ∧ m (Str.ofString "element") = some (.int j tj) ∧
      m (Str.ofString "name") = some (.str k2 u2) ∧ m (Str.ofString "uri") = some (.str k3 u3) ∧ m (Str.ofString "local") = some (.str k4 u4) ∧ m (Str.ofString "value") = some (.str k5 u5)) rfl (by k_mem) lF lN ?j0 ?turn ?done
  k_steps
  · exact ⟨⟨rfl, rfl, rfl, rfl, rfl, rfl, rfl, rfl⟩⟩
  · refine ⟨fun k v m₁ news₁ h₂ tk₂ own hv hoff hmem hJ F₁ N₁ => ?_⟩
    obtain ⟨rfl, e1, e2, e3, e4, e5, e6, e7⟩ := hJ
    obtain ⟨i, ti, Ri, su, tu, sl, tl, rfl, hRi, hu, hl, hne⟩ := hat v (List.mem_of_getElem? hv)
    have F₂ := fr_pinsX (l := [(Str.ofString "self", _), (Str.ofString "row", _), (Str.ofString "element", _), (Str.ofString "name", _), (Str.ofString "uri", _), (Str.ofString "local", _), (Str.ofString "value", _)]) F₁ (allC e1 (allC e2 (allC e3 (allC e4 (allC e5 (all2 e6 e7))))))
    clear F₁
    have hi2 : i < τ.rows.length := (List.getElem?_eq_some_iff.mp hRi).1
    have hrf := TreeC.ref hRi
    have hrl : τ.refs.length = τ.rows.length := by simp [TreeC.refs]
    have hR1 : _ ∈ τ.led w ++ own := List.mem_append_left _ (TreeC.at (w := w) hRi _ (.head _))
    have hR2 : _ ∈ τ.led w ++ own := List.mem_append_left _ (TreeC.at (w := w) hRi _ (.tail _ (.head _)))
    simp only [RowC.dict] at hR2
    rw [hu, hl] at hR2
    have hT1' := List.mem_append_left own hT1
    have hT2' := List.mem_append_left own hT2
    have hT3' := List.mem_append_left own hT3
    have hne' : (sl == k4) = false := by simpa using hne
    k_steps
    all_goals
      rename News _ _ _ _ => N₃
      rename Fr _ _ _ _ => F₃
      exact InvEndG.intro F₃ N₃ ⟨hmem, rfl, rfl, rfl, rfl, rfl, rfl, rfl, rfl⟩ hoff (by walk_at "sub") (by walk_at "sub")
  · refine ⟨fun m₁ news₁ h₂ tk₂ hJ F₁ N₁ => ?_⟩
    obtain ⟨rfl, e1, e2, e3, e4, e5, e6, e7⟩ := hJ
    have F₂ := fr_pins (l := [(Str.ofString "self", _), (Str.ofString "row", _), (Str.ofString "element", _), (Str.ofString "name", _), (Str.ofString "uri", _), (Str.ofString "local", _), (Str.ofString "value", _)]) F₁ (allC e1 (allC e2 (allC e3 (allC e4 (allC e5 (all2 e6 e7))))))
    clear F₁
    k_with "call ref" =>
      first
      | (refine' use_mut (τ.rows.flatMap (RowC.led w)) (newrow_spec (o := some j) (rs := τ.refs) ⟨tj, rfl⟩ (by simpa [TreeC.refs] using Nat.lt_of_lt_of_le hlen (by decide)) hap.ne2 hap.ne4) ?B ?F ?X ?T ?hf ?hk ?N ?hs ?hr ?hdp ?hun ?_
         case hs => exact TreeC.top_sub
         case hr => exact hap.rest
         walk_at "U5"
         intro v' x' h' tk' F' N' fr' hx'
         obtain ⟨⟨tv', hv'⟩, hR', hfr'⟩ := hx'
         rw [show τ.refs.length = τ.rows.length from by simp [TreeC.refs]] at hv'
         subst hv'
         have frR : ∀ q ∈ x'.1.led w, ∀ p ∈ τ.led w, p.1 ≠ q.1 := fun q hq => fr' _ (hfr' q hq)
         obtain ⟨FL, hF0, hF1, hF2, hF3, hF4, hF5, hF6, hF7⟩ := TreeC.cut hnd hP (List.Mem.tail _ (List.Mem.tail _ (List.Mem.tail _ (List.Mem.head _)))) hns.ra hns.da x'.1 x'.2
         have N9 := nsub N' hF6
         simp only [RowC.dict] at hF5
         clear N')
    k_steps
    rename News _ _ _ _ => N₃
    rename NewRow _ _ _ _ _ _ _ _ => hR9
    rename (∀ q ∈ TreeC.mid _ _ _ _, _) => hF9
    rename (∀ q ∈ RowC.led _ _, ∀ p ∈ TreeC.led _ _, _) => fr9
    simp only [List.push_toArray] at N₃
    obtain ⟨hr1, hr2⟩ := add_fin (P' := { P with as := P.as ++ [.int τ.rows.length tv'], ea := P.ea + 1 }) hnd hP rfl (List.Mem.tail _ (List.Mem.tail _ (List.Mem.tail _ (List.Mem.head _)))) (fun q hq => by
      simp only [RowC.led, List.mem_cons, List.not_mem_nil, or_false] at hq ⊢
      rcases hq with rfl | rfl | rfl | rfl | rfl
      · exact .inr ⟨.inl rfl, hns.ra⟩
      · exact .inr ⟨.inr (.inl rfl), hns.da⟩
      · exact .inr ⟨.inr (.inr (.inl rfl)), hns.ca⟩
      · exact .inl rfl
      · exact .inr ⟨.inr (.inr (.inr (.inr rfl))), hns.an.symm⟩) rfl hR9.nodup fr9 N₃ hF9 kp
    exact ⟨_, _, _, rfl, by assumption, _, ⟨_, _, _, _, _, _, _, _, _, P, _, _, rfl, hR9, ⟨_, rfl⟩, hr1, hP, rfl⟩, hr2⟩
end
section
example : True := by
  w_top off
  k_with_none
  k_with "!c1" => first | assumption | exact And.right (by k_extra "!c2") | fail
  k_with "!c2" => first | assumption | exact And.right (by k_extra "!c3") | fail
  k_with "!c3" => first | assumption | exact And.right (by k_extra "!c4") | fail
  k_with "!c4" => first | assumption | exact And.right (by k_extra "!c5") | fail
  k_with "!c5" => first | assumption | exact And.right (by k_extra "!c6") | fail
  k_with "!c6" => first | assumption | exact And.right (by k_extra "!c7") | fail
  k_with "!c7" => first | assumption | exact And.right (by k_extra "!c8") | fail
  k_with "!c8" => assumption
  k_with "!lt9" => with_reducible first | exact And.left (by k_extra "!c1") | exact And.right (by k_extra "!c1") | fail
  k_with "!omega" => with_reducible first | exact lt_dp (by assumption) (by with_unfolding_all exact rfl) | exact lt_un (by assumption) (by with_unfolding_all exact rfl) | assumption | exact Ne.symm (by assumption) | exact Nat.ne_of_lt (by assumption) | exact Nat.ne_of_gt (by assumption) | exact le_big (by assumption) (by with_unfolding_all exact rfl) | exact le_big2 (by assumption) (by with_unfolding_all exact rfl) | exact lt_big (by assumption) (by with_unfolding_all exact rfl) | exact Nat.le_of_ble_eq_true (by with_unfolding_all exact rfl) | exact Nat.ne_of_gt (lt_s (by assumption)) | exact Nat.ne_of_gt (lt_s (lt_s (by assumption))) | exact Nat.ne_of_gt (lt_s (lt_s (lt_s (by assumption)))) | exact Nat.ne_of_lt (by k_extra "!lt9") | exact Nat.ne_of_gt (by k_extra "!lt9") | (refine Nat.lt_of_lt_of_le ?_ (Nat.le_refl _); k_extra "!lt9") | fail
  k_with "!item" => first | (k_here; (with_reducible show wpAny _ _ (subscriptTail _ _ (Value.ref _) (Value.int _ _)) _ _ _); k_dflt (refine' kim_list ?N ?m ?c ?d ?z ?f ?x ?_; (case N => k_asm); (case m => k_mem); (case c => rfl); (case d => rfl); (case z => omega); (case f => omega); (case x => (try simp only [Int.toNat_natCast]); first | assumption | rfl | exact List.getElem?_eq_getElem (by omega)); k_whole)) | (k_here; (with_reducible show wpAny _ _ (subscriptTail _ _ (Value.ref _) (Value.int _ _)) _ _ _); k_dflt (refine' kda_item (knd := PySem.intKind _ _) ?N ?m ?d (intKind_is _ _ _ _) ?v ?_; (case N => k_asm); (case d => assumption); (case m => k_mem); (case v => assumption); k_whole))
  k_with "!subscriptTail" => k_extra "!item"
  k_with "!subscriptTail Name Name ref int" => k_extra "!item"
  k_with "!k_all" => first | exact ne_of_allLt (by assumption) | exact ne_of_allLt (And.right (by assumption)) | exact ne_of_allLt (And.right (And.right (by assumption)))
  k_with "!sub" => first | exact fun _ h => h | (with_reducible assumption) | exact sub_app (by assumption) | exact sub_app (fun _ h => h) | exact (fun _ h => List.mem_append_right _ h) | (refine sub_cc ?_; k_extra "!sub") | (refine sub_tl ?_; k_extra "!sub")
  k_with "!U" => ((case B => assumption); (case F => k_asm); (case X => assumption); (case T => assumption); (case hf => exact rfl); (case hk => exact rfl); (case N => k_asm); (case hs => k_extra "!sub"); (case hdp => ((try dsimp only); omega)); (case hun => ((try dsimp only); omega)); k_whole)
  k_with "!k_handed" => with_reducible assumption
  k_with "!k_all" => first | exact ne_of_allNe (by assumption) | exact ne_of_allNe (And.right (by assumption)) | exact ne_of_allNe (And.right (And.right (by assumption)))
  k_with "!call ref" => k_extra "call ref"
  k_with "!k_all" => first | exact ne_of_lts2 (by assumption) | (with_reducible assumption)
  k_with "!k_mem" => assumption
  k_with "!callWith ref" => (k_here; k_dflt (first | (refine' callWith_K ?k1 ?k2 ?_; (case k1 => k_asm); (case k2 => k_is); k_whole) | (refine' callWith_K0 ?k1 ?k2 ?_; (case k1 => k_in); (case k2 => k_is); k_whole) | (refine' callWith_M0 ?k1 ?k2 ?_; (case k1 => k_meth); (case k2 => k_is); k_whole; try dsimp only [List.nil_append, List.cons_append]) | (refine' callWith_M ?k1 ?k2 ?k3 ?k4 ?_; (case k1 => k_asm); (case k2 => k_asm); (case k3 => k_mem); (case k4 => k_is); k_whole) | (refine' callWith_F ?k1 ?_; (case k1 => exact FnAt.of (by k_asm) (by k_mem)); k_whole)))
  k_with "!exec For Name Attribute cons nil" => k_extra "exec For"
  k_with "!pyIter ref" => k_extra "pyIter ref"
  k_with "!eval Name" => (k_here; kc_free; k_dflt (refine' nameX_F ?N ?c ?m ?d ?_ ?a ?b; (case a => rfl); (case b => rfl); (case N => k_asm); (case c => rfl); (case m => k_mem); (case d => k_asm); k_whole))
  k_with "!exec Return some" => k_extra "exec Return some"
  k_with "!U5" => ((case B => assumption); (case F => k_asm); (case X => assumption); (case T => assumption); (case hf => exact rfl); (case hk => exact rfl); (case N => k_asm); (case hdp => ((try dsimp only); omega)); (case hun => ((try dsimp only); omega)); k_whole)
  trivial
theorem addns_spec {w : World} {τ : TreeC} {j : Nat} {P : RowC} (hP : τ.rows[j]? = some P) {tkp : Tok} (hk : P.vk = .str (Str.ofString "element") tkp) (hlen : τ.rows.length < 500) (hcs : P.ns.length < 500)
    {k2 k3 : Str} (hat : ∀ v ∈ P.ns, ∃ i t Ri sl tl, v = .int ((i : Nat) : Int) t ∧ τ.rows[i]? = some Ri ∧ Ri.vn = .str sl tl ∧ sl ≠ k2)
    (hnd : ((τ.led w).map (·.1)).Nodup) {tj u2 u3 : Tok} {h : Heap} :
    Spec w (.ref 215) [.ref τ.aT, .int j tj, .str k2 u2, .str k3 u3] 10 (τ.led w)
      (fun v h' => ∃ x : TreeC, τ.AddedN w j (Str.ofString "namespace") k2 (Str.ofString "") k2 k3 v x ∧ ∀ q ∈ x.led w, h'.get? q.1 = some q.2 ∧ (q.1 ∈ (τ.led w).map (·.1) ∨ h.get? q.1 = none)) h := by
  refine enter (binds := [(Str.ofString "self", .ref τ.aT), (Str.ofString "element", .int j tj), (Str.ofString "prefix", .str k2 u2), (Str.ofString "uri", .str k3 u3)]) (by k_is) (by k_is) (fun s => BindsTo.of_eq rfl) (locs rfl) rfl rfl rfl (by decide) ?_
  intro dp un gd env outer A₀ base g L' h₁ p loose mean mg mb gs ds tk os B X T F N lt hdp hun kp
  k_fold
  k_with_none
  k_with "!c1" => first | assumption | exact And.right (by k_extra "!c2") | fail
  k_with "!c2" => first | assumption | exact And.right (by k_extra "!c3") | fail
  k_with "!c3" => first | assumption | exact And.right (by k_extra "!c4") | fail
  k_with "!c4" => first | assumption | exact And.right (by k_extra "!c5") | fail
  k_with "!c5" => first | assumption | exact And.right (by k_extra "!c6") | fail
  k_with "!c6" => first | assumption | exact And.right (by k_extra "!c7") | fail
  k_with "!c7" => first | assumption | exact And.right (by k_extra "!c8") | fail
  k_with "!c8" => assumption
  k_with "!lt9" => with_reducible first | exact And.left (by k_extra "!c1") | exact And.right (by k_extra "!c1") | fail
  k_with "!omega" => with_reducible first | exact lt_dp (by assumption) (by with_unfolding_all exact rfl) | exact lt_un (by assumption) (by with_unfolding_all exact rfl) | assumption | exact Ne.symm (by assumption) | exact Nat.ne_of_lt (by assumption) | exact Nat.ne_of_gt (by assumption) | exact le_big (by assumption) (by with_unfolding_all exact rfl) | exact le_big2 (by assumption) (by with_unfolding_all exact rfl) | exact lt_big (by assumption) (by with_unfolding_all exact rfl) | exact Nat.le_of_ble_eq_true (by with_unfolding_all exact rfl) | exact Nat.ne_of_gt (lt_s (by assumption)) | exact Nat.ne_of_gt (lt_s (lt_s (by assumption))) | exact Nat.ne_of_gt (lt_s (lt_s (lt_s (by assumption)))) | exact Nat.ne_of_lt (by k_extra "!lt9") | exact Nat.ne_of_gt (by k_extra "!lt9") | (refine Nat.lt_of_lt_of_le ?_ (Nat.le_refl _); k_extra "!lt9") | fail
  k_with "!item" => first | (k_here; (with_reducible show wpAny _ _ (subscriptTail _ _ (Value.ref _) (Value.int _ _)) _ _ _); k_dflt (refine' kim_list ?N ?m ?c ?d ?z ?f ?x ?_; (case N => k_asm); (case m => k_mem); (case c => rfl); (case d => rfl); (case z => omega); (case f => omega); (case x => (try simp only [Int.toNat_natCast]); first | assumption | rfl | exact List.getElem?_eq_getElem (by omega)); k_whole)) | (k_here; (with_reducible show wpAny _ _ (subscriptTail _ _ (Value.ref _) (Value.int _ _)) _ _ _); k_dflt (refine' kda_item (knd := PySem.intKind _ _) ?N ?m ?d (intKind_is _ _ _ _) ?v ?_; (case N => k_asm); (case d => assumption); (case m => k_mem); (case v => assumption); k_whole))
  k_with "!subscriptTail" => k_extra "!item"
  k_with "!subscriptTail Name Name ref int" => k_extra "!item"
  k_with "!k_all" => first | exact ne_of_allLt (by assumption) | exact ne_of_allLt (And.right (by assumption)) | exact ne_of_allLt (And.right (And.right (by assumption)))
  k_with "!sub" => first | exact fun _ h => h | (with_reducible assumption) | exact sub_app (by assumption) | exact sub_app (fun _ h => h) | exact (fun _ h => List.mem_append_right _ h) | (refine sub_cc ?_; k_extra "!sub") | (refine sub_tl ?_; k_extra "!sub")
  k_with "!U" => ((case B => assumption); (case F => k_asm); (case X => assumption); (case T => assumption); (case hf => exact rfl); (case hk => exact rfl); (case N => k_asm); (case hs => k_extra "!sub"); (case hdp => ((try dsimp only); omega)); (case hun => ((try dsimp only); omega)); k_whole)
  k_with "!k_handed" => with_reducible assumption
  k_with "!k_all" => first | exact ne_of_allNe (by assumption) | exact ne_of_allNe (And.right (by assumption)) | exact ne_of_allNe (And.right (And.right (by assumption)))
  k_with "!call ref" => k_extra "call ref"
  k_with "!k_all" => first | exact ne_of_lts2 (by assumption) | (with_reducible assumption)
  k_with "!k_mem" => assumption
  k_with "!callWith ref" => (k_here; k_dflt (first | (refine' callWith_K ?k1 ?k2 ?_; (case k1 => k_asm); (case k2 => k_is); k_whole) | (refine' callWith_K0 ?k1 ?k2 ?_; (case k1 => k_in); (case k2 => k_is); k_whole) | (refine' callWith_M0 ?k1 ?k2 ?_; (case k1 => k_meth); (case k2 => k_is); k_whole; try dsimp only [List.nil_append, List.cons_append]) | (refine' callWith_M ?k1 ?k2 ?k3 ?k4 ?_; (case k1 => k_asm); (case k2 => k_asm); (case k3 => k_mem); (case k4 => k_is); k_whole) | (refine' callWith_F ?k1 ?_; (case k1 => exact FnAt.of (by k_asm) (by k_mem)); k_whole)))
  k_with "!exec For Name Attribute cons nil" => k_extra "exec For"
  k_with "!pyIter ref" => k_extra "pyIter ref"
  k_with "!eval Name" => (k_here; kc_free; k_dflt (refine' nameX_F ?N ?c ?m ?d ?_ ?a ?b; (case a => rfl); (case b => rfl); (case N => k_asm); (case c => rfl); (case m => k_mem); (case d => k_asm); k_whole))
  k_with "!exec Return some" => k_extra "exec Return some"
  k_with "!U5" => ((case B => assumption); (case F => k_asm); (case X => assumption); (case T => assumption); (case hf => exact rfl); (case hk => exact rfl); (case N => k_asm); (case hdp => ((try dsimp only); omega)); (case hun => ((try dsimp only); omega)); k_whole)
  have hT1 : (τ.aT, instObj 309 τ.dT) ∈ τ.led w := .head _
  have hT2 : (τ.dT, treeDict w τ.aR τ.t τ.e₁) ∈ τ.led w := .tail _ (.head _)
  have hT3 : (τ.aR, listOf τ.refs.toArray τ.e₂) ∈ τ.led w := .tail _ (.tail _ (.head _))
  have hP1 := TreeC.at (w := w) hP _ (.head _)
  have hP2 := TreeC.at (w := w) hP _ (.tail _ (.head _))
  have hP4 := TreeC.at (w := w) hP _ (.tail _ (.tail _ (.tail _ (.tail _ (.head _)))))
  simp only [RowC.dict] at hP2
  have hap := TreeC.apart hnd
  have hns := TreeC.row_nes hnd hP
  have hjl : j < τ.refs.length := (List.getElem?_eq_some_iff.mp (TreeC.ref hP)).1
  have hj2 : j < τ.rows.length := (List.getElem?_eq_some_iff.mp hP).1
  k_with "call ref" =>
    first
    | (refine' use_ro (elementrow_spec (FP := τ.led w) (fun _ h => h) hP hk (by omega)) ?B ?F ?X ?T ?hf ?hk ?N ?hs ?hdp ?hun ?_
       walk_at "U"
       intro v' h' tk' F' N' ka' hv'
       subst hv')
  k_with "pyIter ref" =>
    rename Fr _ _ _ _ => lF
    rename News _ _ _ _ => lN
    refine' iter_my (vs := P.ns) (fun k m nx => nx = τ.led w ∧ m (Str.ofString "self") = some (.ref τ.aT) ∧ m (Str.ofString "row") = some (.ref P.r) ∧ m (Str.ofString "element") = some (.int j tj) ∧
      m (Str.ofString "prefix") = some (.str k2 u2) ∧ m (Str.ofString "uri") = some (.str k3 u3)) rfl (by k_mem) lF lN ?j0 ?turn ?done
  k_steps
  · exact ⟨⟨rfl, rfl, rfl, rfl, rfl, rfl⟩⟩
  · refine ⟨fun k v m₁ news₁ h₂ tk₂ own hv hoff hmem hJ F₁ N₁ => ?_⟩
    obtain ⟨rfl, e1, e2, e3, e4, e5⟩ := hJ
    obtain ⟨i, ti, Ri, sl, tl, rfl, hRi, hl, hne⟩ := hat v (List.mem_of_getElem? hv)
    have F₂ := fr_pinsX (l := [(Str.ofString "self", _), (Str.ofString "row", _), (Str.ofString "element", _), (Str.ofString "prefix", _), (Str.ofString "uri", _)]) F₁ (allC e1 (allC e2 (allC e3 (all2 e4 e5))))
    clear F₁
    have hi2 : i < τ.rows.length := (List.getElem?_eq_some_iff.mp hRi).1
    have hrf := TreeC.ref hRi
    have hrl : τ.refs.length = τ.rows.length := by simp [TreeC.refs]
    have hR1 : _ ∈ τ.led w ++ own := List.mem_append_left _ (TreeC.at (w := w) hRi _ (.head _))
    have hR2 : _ ∈ τ.led w ++ own := List.mem_append_left _ (TreeC.at (w := w) hRi _ (.tail _ (.head _)))
    simp only [RowC.dict] at hR2
    rw [hl] at hR2
    have hT1' := List.mem_append_left own hT1
    have hT2' := List.mem_append_left own hT2
    have hT3' := List.mem_append_left own hT3
    have hne' : (sl == k2) = false := by simpa using hne
    k_steps
    all_goals
      rename News _ _ _ _ => N₃
      rename Fr _ _ _ _ => F₃
      exact InvEndG.intro F₃ N₃ ⟨hmem, rfl, rfl, rfl, rfl, rfl, rfl⟩ hoff (by walk_at "sub") (by walk_at "sub")
  · refine ⟨fun m₁ news₁ h₂ tk₂ hJ F₁ N₁ => ?_⟩
    obtain ⟨rfl, e1, e2, e3, e4, e5⟩ := hJ
    have F₂ := fr_pins (l := [(Str.ofString "self", _), (Str.ofString "row", _), (Str.ofString "element", _), (Str.ofString "prefix", _), (Str.ofString "uri", _)]) F₁ (allC e1 (allC e2 (allC e3 (all2 e4 e5))))
    clear F₁
    k_with "call ref" =>
      first
      | (refine' use_mut (τ.rows.flatMap (RowC.led w)) (newrow_spec (o := some j) (rs := τ.refs) ⟨tj, rfl⟩ (by simpa [TreeC.refs] using Nat.lt_of_lt_of_le hlen (by decide)) hap.ne2 hap.ne4) ?B ?F ?X ?T ?hf ?hk ?N ?hs ?hr ?hdp ?hun ?_
         case hs => exact TreeC.top_sub
         case hr => exact hap.rest
         walk_at "U5"
         intro v' x' h' tk' F' N' fr' hx'
         obtain ⟨⟨tv', hv'⟩, hR', hfr'⟩ := hx'
         rw [show τ.refs.length = τ.rows.length from by simp [TreeC.refs]] at hv'
         subst hv'
         have frR : ∀ q ∈ x'.1.led w, ∀ p ∈ τ.led w, p.1 ≠ q.1 := fun q hq => fr' _ (hfr' q hq)
         obtain ⟨FL, hF0, hF1, hF2, hF3, hF4, hF5, hF6, hF7⟩ := TreeC.cut hnd hP (List.Mem.tail _ (List.Mem.tail _ (List.Mem.tail _ (List.Mem.tail _ (List.Mem.head _))))) hns.rn hns.dn x'.1 x'.2
         have N9 := nsub N' hF6
         simp only [RowC.dict] at hF5
         clear N')
    k_steps
    rename News _ _ _ _ => N₃
    rename NewRow _ _ _ _ _ _ _ _ => hR9
    rename (∀ q ∈ TreeC.mid _ _ _ _, _) => hF9
    rename (∀ q ∈ RowC.led _ _, ∀ p ∈ TreeC.led _ _, _) => fr9
    simp only [List.push_toArray] at N₃
    obtain ⟨hr1, hr2⟩ := add_fin (P' := { P with ns := P.ns ++ [.int τ.rows.length tv'], en := P.en + 1 }) hnd hP rfl (List.Mem.tail _ (List.Mem.tail _ (List.Mem.tail _ (List.Mem.tail _ (List.Mem.head _))))) (fun q hq => by
      simp only [RowC.led, List.mem_cons, List.not_mem_nil, or_false] at hq ⊢
      rcases hq with rfl | rfl | rfl | rfl | rfl
      · exact .inr ⟨.inl rfl, hns.rn⟩
      · exact .inr ⟨.inr (.inl rfl), hns.dn⟩
      · exact .inr ⟨.inr (.inr (.inl rfl)), hns.cn⟩
      · exact .inr ⟨.inr (.inr (.inr (.inl rfl))), hns.an⟩
      · exact .inl rfl) rfl hR9.nodup fr9 N₃ hF9 kp
    exact ⟨_, _, _, rfl, by assumption, _, ⟨_, _, _, _, _, _, _, _, _, P, _, _, rfl, hR9, ⟨_, rfl⟩, hr1, hP, rfl⟩, hr2⟩
end
section
example : True := by
  w_top off
  k_with_none
  k_with "!c1" => first | assumption | exact And.right (by k_extra "!c2") | fail
  k_with "!c2" => first | assumption | exact And.right (by k_extra "!c3") | fail
  k_with "!c3" => first | assumption | exact And.right (by k_extra "!c4") | fail
  k_with "!c4" => first | assumption | exact And.right (by k_extra "!c5") | fail
  k_with "!c5" => first | assumption | exact And.right (by k_extra "!c6") | fail
  k_with "!c6" => first | assumption | exact And.right (by k_extra "!c7") | fail
  k_with "!c7" => first | assumption | exact And.right (by k_extra "!c8") | fail
  k_with "!c8" => assumption
  k_with "!lt9" => with_reducible first | exact And.left (by k_extra "!c1") | exact And.right (by k_extra "!c1") | fail
  k_with "!omega" => with_reducible first | exact lt_dp (by assumption) (by with_unfolding_all exact rfl) | exact lt_un (by assumption) (by with_unfolding_all exact rfl) | assumption | exact Ne.symm (by assumption) | exact Nat.ne_of_lt (by assumption) | exact Nat.ne_of_gt (by assumption) | exact le_big (by assumption) (by with_unfolding_all exact rfl) | exact le_big2 (by assumption) (by with_unfolding_all exact rfl) | exact lt_big (by assumption) (by with_unfolding_all exact rfl) | exact Nat.le_of_ble_eq_true (by with_unfolding_all exact rfl) | exact Nat.ne_of_gt (lt_s (by assumption)) | exact Nat.ne_of_gt (lt_s (lt_s (by assumption))) | exact Nat.ne_of_gt (lt_s (lt_s (lt_s (by assumption)))) | exact Nat.ne_of_lt (by k_extra "!lt9") | exact Nat.ne_of_gt (by k_extra "!lt9") | (refine Nat.lt_of_lt_of_le ?_ (Nat.le_refl _); k_extra "!lt9") | fail
  k_with "!call builtin:len" => (k_here; (with_reducible show wpAny _ _ (call (Value.builtin "len") [Value.ref _]) _ _ _); k_dflt (refine' L_len ?N ?m ?z ?_; (case N => k_asm); (case m => k_mem); (case z => omega); k_whole))
  k_with "!item" => first | (k_here; (with_reducible show wpAny _ _ (subscriptTail _ _ (Value.ref _) (Value.int _ _)) _ _ _); k_dflt (refine' kim_list ?N ?m ?c ?d ?z ?f ?x ?_; (case N => k_asm); (case m => k_mem); (case c => rfl); (case d => rfl); (case z => omega); (case f => omega); (case x => (try simp only [Int.toNat_natCast]); first | assumption | rfl | exact List.getElem?_eq_getElem (by omega)); k_whole)) | (k_here; (with_reducible show wpAny _ _ (subscriptTail _ _ (Value.ref _) (Value.int _ _)) _ _ _); k_dflt (refine' kda_item (knd := PySem.intKind _ _) ?N ?m ?d (intKind_is _ _ _ _) ?v ?_; (case N => k_asm); (case d => assumption); (case m => k_mem); (case v => assumption); k_whole))
  k_with "!subscriptTail" => k_extra "!item"
  k_with "!subscriptTail Name Constant ref int" => k_extra "!item"
  k_with "!subscriptTail Name Name ref int" => k_extra "!item"
  k_with "!k_all" => first | exact ne_of_allLt (by assumption) | exact ne_of_allLt (And.right (by assumption)) | exact ne_of_allLt (And.right (And.right (by assumption)))
  k_with "!sub" => first | exact fun _ h => h | (with_reducible assumption) | exact sub_app (by assumption) | exact sub_app (fun _ h => h) | exact (fun _ h => List.mem_append_right _ h) | (refine sub_cc ?_; k_extra "!sub") | (refine sub_tl ?_; k_extra "!sub")
  k_with "!U" => ((case B => assumption); (case F => k_asm); (case X => assumption); (case T => assumption); (case hf => exact rfl); (case hk => exact rfl); (case N => k_asm); (case hs => k_extra "!sub"); (case hdp => ((try dsimp only); omega)); (case hun => ((try dsimp only); omega)); k_whole)
  k_with "!k_handed" => with_reducible assumption
  k_with "!call type:list" => (k_here; (with_reducible show wpAny _ _ (call (Value.type "list") [Value.ref _]) _ _ _); k_dflt (refine' L_copy ?F ?N ?m ?z ?_; (case F => k_asm); (case N => k_asm); (case m => k_mem); (case z => omega); k_whole); intro zqD zqc zqh zqF zqN zql1; (try simp only [AllLt, and_true] at zql1))
  k_with "!k_all" => first | exact ne_of_allNe (by assumption) | exact ne_of_allNe (And.right (by assumption)) | exact ne_of_allNe (And.right (And.right (by assumption)))
  k_with "!subscriptTail Name Call ref int" => k_extra "!item"
  k_with "!exec While Compare cons nil" => k_extra "exec While Compare cons nil"
  k_with "!call ref" => k_extra "call ref"
  k_with "!k_all" => first | exact ne_of_lts2 (by assumption) | (with_reducible assumption)
  k_with "!k_mem" => assumption
  k_with "!callWith ref" => (k_here; k_dflt (first | (refine' callWith_K ?k1 ?k2 ?_; (case k1 => k_asm); (case k2 => k_is); k_whole) | (refine' callWith_K0 ?k1 ?k2 ?_; (case k1 => k_in); (case k2 => k_is); k_whole) | (refine' callWith_M0 ?k1 ?k2 ?_; (case k1 => k_meth); (case k2 => k_is); k_whole; try dsimp only [List.nil_append, List.cons_append]) | (refine' callWith_M ?k1 ?k2 ?k3 ?k4 ?_; (case k1 => k_asm); (case k2 => k_asm); (case k3 => k_mem); (case k4 => k_is); k_whole) | (refine' callWith_F ?k1 ?_; (case k1 => exact FnAt.of (by k_asm) (by k_mem)); k_whole)))
  k_with "!exec For Name Call cons nil" => k_extra "exec For"
  k_with "!exec For Name Name cons nil" => k_extra "exec For"
  k_with "!exec For Name Attribute cons nil" => k_extra "exec For"
  k_with "!pyIter ref" => k_extra "pyIter ref"
  k_with "!revslice" => (k_here; (with_reducible show wpAny _ _ (subscriptTail _ (PySem.Expr.Slice none none (some _) _) (Value.ref _) (Value.ref _)) _ _ _); k_dflt (refine' krv_ints ?F ?N ?l ?k ?i ?_ ?s ?t ?z; (case F => k_asm); (case N => k_asm); (case l => exact L_isList (by k_asm) (by k_mem)); (case k => exact IsPart.int _ _); (case i => assumption); (case s => with_unfolding_all rfl); (case t => (intro _; with_unfolding_all rfl)); (case z => (rw [List.size_toArray, sizeLine_eq]; omega))); intro zqD zqws zqh zqF zqN zql1 zqhI zqhC; (have zqhW := IntsAre.length zqhI); (replace zql1 := allLt_of zql1); (try simp only [AllLt, and_true] at zql1))
  k_with "!subscriptTail Name Slice ref ref" => k_extra "!revslice"
  k_with "!subscriptTail Subscript Slice ref ref" => k_extra "!revslice"
  k_with "!subscriptTail Subscript Constant ref int" => k_extra "!item"
  k_with "!compareOp In int ref" => (k_here; k_dflt (refine' in_list_ints ?hl ?hi ?_; (case hl => exact L_isList (by k_asm) (by k_mem)); (case hi => assumption); k_whole))
  k_with "!exec Assign cons ListComp" => (k_here; (rename Fr _ _ _ _ => zqlF9); k_dflt (refine comp_assign zqlF9 (by rfl) (by with_unfolding_all rfl) (by with_unfolding_all rfl) (by decide) (by rfl) (by decide) (by rfl) (by rfl) (by rfl) ?_))
  k_with "!eval ListComp" => (k_here; (rename Fr _ _ _ _ => zqlF9); k_dflt (refine comp_expr zqlF9 (by with_unfolding_all rfl) (by decide) (by rfl) (by decide) (by rfl) ?_))
  k_with "!eval Name" => (k_here; kc_free; k_dflt (refine' nameX_F ?N ?c ?m ?d ?_ ?a ?b; (case a => rfl); (case b => rfl); (case N => k_asm); (case c => rfl); (case m => k_mem); (case d => k_asm); k_whole))
  k_with "!U3" => ((case N => k_asm); (case hs => exact fun _ h => h); (case hsub => k_extra "!sub"); (case B => assumption); (case F => k_asm); (case X => assumption); (case T => assumption); (case hf => exact rfl); (case hk => exact rfl); (case hdp => ((try dsimp only); omega)); (case hun => ((try dsimp only); omega)))
  k_with "!lamB1" => ((case m1 => k_mem); (case m2 => k_mem); (case m3 => assumption); (case m4 => assumption); (case m5 => k_mem); (case m6 => assumption); (case m7 => k_mem))
  k_with "!lamS1" => ((case n1 => k_mem); (case n2 => k_mem); (case n3 => assumption); (case n4 => assumption); (case n5 => k_mem); (case n6 => assumption); (case n7 => k_mem))
  k_with "!exec Return some" => k_extra "exec Return some"
  k_with "!call builtin:len" => (k_here; (with_reducible show wpAny _ _ (call (Value.builtin "len") [Value.ref _]) _ _ _); k_dflt (refine' L_len ?N ?m ?z ?_; (case N => k_asm); (case m => k_mem); (case z => ((simp only [List.length_append, List.length_cons, List.length_nil]); omega)); k_whole))
  k_with "!U5" => ((case B => assumption); (case F => k_asm); (case X => assumption); (case T => assumption); (case hf => exact rfl); (case hk => exact rfl); (case N => k_asm); (case hdp => ((try dsimp only); omega)); (case hun => ((try dsimp only); omega)); k_whole)
  trivial
/-- the nodes as plain data: how many, their kinds, their parents -/
structure Core where
  n : Nat
  kind : Nat → Str
  par : Nat → Option Nat
def isCh (k : Str) : Bool := [Str.ofString "element", Str.ofString "text", Str.ofString "comment", Str.ofString "instruction"].any fun x => x == k
def isAt (k : Str) : Bool := k == Str.ofString "attribute"
def isNs (k : Str) : Bool := k == Str.ofString "namespace"
def isRt (k : Str) : Bool := k == Str.ofString "root"
def Core.sub (C : Core) (p : Str → Bool) (j : Nat) : List Nat := (List.range C.n).filter fun c => C.par c == some j && p (C.kind c)
def Core.shape (C : Core) : Shape := ⟨C.n, C.kind, C.par, C.sub isCh⟩
def Core.add (C : Core) (k : Str) (o : Option Nat) : Core := ⟨C.n + 1, fun i => if i = C.n then k else C.kind i, fun i => if i = C.n then o else C.par i⟩
theorem Core.sub_add {C : Core} {k : Str} {o : Option Nat} {p : Str → Bool} {j : Nat} : (C.add k o).sub p j = C.sub p j ++ (if (o == some j && p k) = true then [C.n] else []) := by
  show (List.range (C.n + 1)).filter _ = _
  rw [List.range_succ, List.filter_append]
  congr 1
  · refine List.filter_congr fun c hc => ?_
    have hc' : c ≠ C.n := Nat.ne_of_lt (List.mem_range.mp hc)
    simp only [Core.add, if_neg hc']
  · simp only [Core.add, List.filter_cons, List.filter_nil, if_true]
theorem Core.sub_lt {C : Core} {p : Str → Bool} {j : Nat} : ∀ c ∈ C.sub p j, c < C.n := fun c hc => List.mem_range.mp (List.mem_filter.mp hc).1
theorem Core.sub_len {C : Core} {p : Str → Bool} {j : Nat} : (C.sub p j).length ≤ C.n := Nat.le_trans (List.length_filter_le _ _) (by simp)

structure Core.Ok (C : Core) : Prop where
  below : ∀ i j, i < C.n → C.par i = some j → j < i
  holds : ∀ i j, i < C.n → C.par i = some j → isRt (C.kind j) = true ∨ C.kind j = Str.ofString "element"
  kinds : ∀ i, i < C.n → isCh (C.kind i) = true ∨ isAt (C.kind i) = true ∨ isNs (C.kind i) = true ∨ (isRt (C.kind i) = true ∧ C.par i = none)
  elem : ∀ i j, i < C.n → C.par i = some j → isCh (C.kind i) = false → C.kind j = Str.ofString "element"

/-- a name is none of those that later turns give -/
def NoName (f : Nat → Str) (T : Nat) (s : Str) : Prop := ∀ t, T ≤ t → t < 8 → s ≠ f t
structure RowOk (C : Core) (kn pn : Nat → Str) (T i : Nat) (R : RowC) : Prop where
  k : ∃ t, R.vk = .str (C.kind i) t
  p : IsPar R.vp (C.par i)
  cs : IntsAre R.cs (natInts (C.sub isCh i))
  as : IntsAre R.as (natInts (C.sub isAt i))
  ns : IntsAre R.ns (natInts (C.sub isNs i))
  nm : ∃ n t, R.vn = .str n t ∧ NoName pn T n
  uri : ∃ u t, R.vu = .str u t
  loc : ∃ l t, R.vl = .str l t ∧ NoName kn T l
structure Store (w : World) (C : Core) (kn pn : Nat → Str) (T : Nat) (τ : TreeC) : Prop where
  ok : C.Ok
  len : τ.rows.length = C.n
  small : C.n < 100
  row : ∀ i, i < C.n → ∃ R, τ.rows[i]? = some R ∧ RowOk C kn pn T i R
  nd : ((τ.led w).map (·.1)).Nodup

theorem Store.of {w : World} {C : Core} {kn pn : Nat → Str} {T : Nat} {τ : TreeC} (H : Store w C kn pn T τ) : C.shape.Of τ where
  len := H.len
  small := Nat.lt_trans H.small (by decide)
  row := fun i hi => let ⟨R, h, r⟩ := H.row i hi; ⟨R, h, r.k, r.p, r.cs⟩
  below := H.ok.below
  chs := fun i hi => ⟨Core.sub_len, Core.sub_lt⟩
theorem isCh_not {k : Str} (h : isCh k = true) : ¬ (k = Str.ofString "attribute" ∨ k = Str.ofString "namespace") := by
  rintro (rfl | rfl) <;> exact absurd h (by decide)
theorem Store.nice {w : World} {C : Core} {kn pn : Nat → Str} {T : Nat} {τ : TreeC} (H : Store w C kn pn T τ) : C.shape.Nice where
  ch := fun j _ => rfl
  kinds := fun i hi hp => by
    refine ⟨fun h => isCh_not h, fun h => ?_⟩
    rcases H.ok.kinds i hi with q | q | q | q
    · exact q
    · exact (h (.inl (beq_iff_eq.mp q))).elim
    · exact (h (.inr (beq_iff_eq.mp q))).elim
    · exact (hp q.2).elim

theorem NoName.mono {f : Nat → Str} {T T' : Nat} {s : Str} (h : NoName f T s) (hT : T ≤ T') : NoName f T' s := fun t h1 h2 => h t (Nat.le_trans hT h1) h2
theorem RowOk.mono {C : Core} {kn pn : Nat → Str} {T T' i : Nat} {R : RowC} (h : RowOk C kn pn T i R) (hT : T ≤ T') : RowOk C kn pn T' i R :=
  ⟨h.k, h.p, h.cs, h.as, h.ns, let ⟨n, t, e, q⟩ := h.nm; ⟨n, t, e, q.mono hT⟩, h.uri, let ⟨n, t, e, q⟩ := h.loc; ⟨n, t, e, q.mono hT⟩⟩
theorem Store.mono {w : World} {C : Core} {kn pn : Nat → Str} {T T' : Nat} {τ : TreeC} (H : Store w C kn pn T τ) (hT : T ≤ T') : Store w C kn pn T' τ :=
  ⟨H.ok, H.len, H.small, fun i hi => let ⟨R, h, r⟩ := H.row i hi; ⟨R, h, r.mono hT⟩, H.nd⟩
theorem Core.Ok.add {C : Core} (h : C.Ok) {k : Str} {o : Option Nat} (hb : ∀ j, o = some j → j < C.n ∧ (isRt (C.kind j) = true ∨ C.kind j = Str.ofString "element") ∧ (isCh k = false → C.kind j = Str.ofString "element"))
    (hk : isCh k = true ∨ isAt k = true ∨ isNs k = true ∨ (isRt k = true ∧ o = none)) : (C.add k o).Ok where
  below := fun i j hi hp => by
    simp only [Core.add] at hi hp
    split at hp
    · rename_i e; rw [e]; exact (hb j hp).1
    · exact h.below i j (by omega) hp
  holds := fun i j hi hp => by
    simp only [Core.add] at hi hp ⊢
    split at hp
    · have := hb j hp; rw [if_neg (Nat.ne_of_lt this.1)]; exact this.2.1
    · have := h.below i j (by omega) hp; rw [if_neg (by omega)]; exact h.holds i j (by omega) hp
  kinds := fun i hi => by
    simp only [Core.add] at hi ⊢
    split
    · exact hk
    · exact h.kinds i (by omega)
  elem := fun i j hi hp hc => by
    simp only [Core.add] at hi hp hc ⊢
    split at hp
    · rename_i e
      rw [if_pos e] at hc
      have := hb j hp; rw [if_neg (Nat.ne_of_lt this.1)]; exact this.2.2 hc
    · rename_i e
      rw [if_neg e] at hc
      have := h.below i j (by omega) hp; rw [if_neg (by omega)]; exact h.elem i j (by omega) hp hc
theorem Core.sub_new {C : Core} (h : C.Ok) {k : Str} {o : Option Nat} (hb : ∀ j, o = some j → j < C.n) {p : Str → Bool} : (C.add k o).sub p C.n = [] := by
  rw [Core.sub_add]
  have h1 : C.sub p C.n = [] := List.filter_eq_nil_iff.mpr fun c hc => by
    have hc' := List.mem_range.mp hc
    cases e : C.par c with
    | none => simp
    | some j =>
      have := h.below c j hc' e
      have hj : j ≠ C.n := by omega
      simp [hj]
  rw [h1]
  cases o with
  | none => simp
  | some j => have := hb j rfl; have hj : j ≠ C.n := by omega
              simp [hj]
theorem isCh_cases {k : Str} (h : isCh k = true) : isAt k = false ∧ isNs k = false := by
  have := isCh_not h
  refine ⟨?_, ?_⟩
  · cases e : isAt k with
    | false => rfl
    | true => exact (this (.inl (beq_iff_eq.mp e))).elim
  · cases e : isNs k with
    | false => rfl
    | true => exact (this (.inr (beq_iff_eq.mp e))).elim
section
variable {w : World} {C : Core} {kn pn : Nat → Str} {T : Nat} {τ : TreeC} {o : Option Nat} {k n u l v : Str} {val : Value} {x : TreeC}
theorem sub_keep {p : Str → Bool} {i : Nat} (h : (o == some i && p k) = false) : (C.add k o).sub p i = C.sub p i := by
  rw [Core.sub_add, h]; simp
theorem sub_more {p : Str → Bool} {i : Nat} (h : p k = true) : (C.add k (some i)).sub p i = C.sub p i ++ [C.n] := by
  rw [Core.sub_add, h]; simp
/-- an old row, its three lists as they are now -/
theorem RowOk.step {i : Nat} {R R' : RowC} (h : RowOk C kn pn T i R) (hi : i < C.n) (hk : R'.vk = R.vk) (hp : R'.vp = R.vp) (hn : R'.vn = R.vn) (hu : R'.vu = R.vu) (hl : R'.vl = R.vl)
    (c1 : IntsAre R'.cs (natInts ((C.add k o).sub isCh i))) (c2 : IntsAre R'.as (natInts ((C.add k o).sub isAt i))) (c3 : IntsAre R'.ns (natInts ((C.add k o).sub isNs i))) : RowOk (C.add k o) kn pn T i R' where
  k := by rw [hk, show (C.add k o).kind i = C.kind i from if_neg (Nat.ne_of_lt hi)]; exact h.k
  p := by rw [hp, show (C.add k o).par i = C.par i from if_neg (Nat.ne_of_lt hi)]; exact h.p
  cs := c1
  as := c2
  ns := c3
  nm := by rw [hn]; exact h.nm
  uri := by rw [hu]; exact h.uri
  loc := by rw [hl]; exact h.loc
theorem RowOk.keep {i : Nat} {R : RowC} (h : RowOk C kn pn T i R) (hi : i < C.n) (h1 : o ≠ some i) : RowOk (C.add k o) kn pn T i R := by
  have hb : (o == some i) = false := by simpa using h1
  refine h.step hi rfl rfl rfl rfl rfl ?_ ?_ ?_
  · rw [sub_keep (by simp [hb])]; exact h.cs
  · rw [sub_keep (by simp [hb])]; exact h.as
  · rw [sub_keep (by simp [hb])]; exact h.ns
theorem RowOk.new {R : RowC} {vp : Value} {t1 t2 t3 t4 t5 : Tok} (hC : C.Ok) (hb : ∀ j, o = some j → j < C.n) (hR : NewRow w R (.str k t1) (.str n t2) (.str u t3) (.str l t4) (.str v t5) vp) (hp : IsPar vp o) (hn : NoName pn T n) (hl : NoName kn T l) :
    RowOk (C.add k o) kn pn T C.n R where
  k := ⟨t1, by rw [hR.k]; simp [Core.add]⟩
  p := by rw [hR.p, show (C.add k o).par C.n = o from if_pos rfl]; exact hp
  cs := by rw [hR.cs, Core.sub_new hC hb]; exact .nil
  as := by rw [hR.as, Core.sub_new hC hb]; exact .nil
  ns := by rw [hR.ns, Core.sub_new hC hb]; exact .nil
  nm := ⟨n, t2, hR.n, hn⟩
  uri := ⟨u, t3, hR.u⟩
  loc := ⟨l, t4, hR.l, hl⟩

/-- a store pushed: all rows stand by -/
theorem Store.push {rows : List RowC} {R : RowC} {e : Nat} (H : Store w C kn pn T τ) (hok : (C.add k o).Ok) (hz : C.n + 1 < 100) (hlen : rows.length = τ.rows.length)
    (old : ∀ i, i < C.n → ∃ R', rows[i]? = some R' ∧ RowOk (C.add k o) kn pn T i R') (new : RowOk (C.add k o) kn pn T C.n R) (hn : (((τ.push rows R e).led w).map (·.1)).Nodup) : Store w (C.add k o) kn pn T (τ.push rows R e) where
  ok := hok
  len := by simp only [TreeC.push, List.length_append, List.length_cons, List.length_nil, hlen, H.len, Core.add]
  small := hz
  row := fun i hi => by
    have hi' : i < C.n + 1 := hi
    simp only [TreeC.push]
    by_cases e : i = C.n
    · subst e
      refine ⟨R, ?_, new⟩
      rw [List.getElem?_append_right (by rw [hlen, H.len]; exact Nat.le_refl _), hlen, H.len, Nat.sub_self]; rfl
    · obtain ⟨R', h1, h2⟩ := old i (by omega)
      exact ⟨R', by rw [List.getElem?_append_left (by rw [hlen, H.len]; omega)]; exact h1, h2⟩
  nd := hn
theorem Store.added (H : Store w C kn pn T τ) (hA : τ.Added w o k n u l v val x) (hz : C.n + 1 < 100) (hb : ∀ j, o = some j → j < C.n ∧ (isRt (C.kind j) = true ∨ C.kind j = Str.ofString "element"))
    (hk : isCh k = true ∨ (isRt k = true ∧ o = none)) (hn : NoName pn T n) (hl : NoName kn T l) : (∃ t, val = .int (C.n : Int) t) ∧ Store w (C.add k o) kn pn T x := by
  obtain ⟨tv, R, e, vp, t1, t2, t3, t4, t5, rfl, hR, hp, hnd, hx⟩ := hA
  refine ⟨⟨tv, by rw [H.len]⟩, ?_⟩
  have hb' : ∀ j, o = some j → j < C.n := fun j e => (hb j e).1
  have hok : (C.add k o).Ok := H.ok.add (fun j e => ⟨(hb j e).1, (hb j e).2, fun hc => by
    rcases hk with q | q
    · rw [q] at hc; cases hc
    · rw [q.2] at e; cases e⟩) (by rcases hk with q | q; exact .inl q; exact .inr (.inr (.inr q)))
  rcases hx with ⟨rfl, rfl⟩ | ⟨j, P, tc, ec, rfl, hP, rfl⟩
  · exact H.push hok hz rfl (fun i hi => let ⟨R', h1, h2⟩ := H.row i hi; ⟨R', h1, h2.keep hi (by simp)⟩) (RowOk.new H.ok hb' hR hp hn hl) hnd
  · have hch : isCh k = true := by
      rcases hk with q | q
      · exact q
      · cases q.2
    obtain ⟨hA', hN'⟩ := isCh_cases hch
    refine H.push hok hz (by simp) (fun i hi => ?_) (RowOk.new H.ok hb' hR hp hn hl) hnd
    obtain ⟨R', h1, h2⟩ := H.row i hi
    by_cases e : i = j
    · subst e
      rw [hP] at h1; cases h1
      refine ⟨_, by rw [List.getElem?_set, if_pos rfl, if_pos (by rw [H.len]; exact hi)], ?_⟩
      refine h2.step hi rfl rfl rfl rfl rfl ?_ ?_ ?_
      · rw [sub_more hch, natInts_snoc, H.len]; exact ints_snoc h2.cs
      · rw [sub_keep (by simp [hA'])]; exact h2.as
      · rw [sub_keep (by simp [hN'])]; exact h2.ns
    · exact ⟨R', by rw [List.getElem?_set, if_neg (fun q => e q.symm)]; exact h1, h2.keep hi (fun q => e (Option.some.inj q).symm)⟩
theorem Store.addedA {j : Nat} (H : Store w C kn pn T τ) (hA : τ.AddedA w j k n u l v val x) (hz : C.n + 1 < 100) (hj : j < C.n) (he : C.kind j = Str.ofString "element")
    (hk : isAt k = true) (hn : NoName pn T n) (hl : NoName kn T l) : (∃ t, val = .int (C.n : Int) t) ∧ Store w (C.add k (some j)) kn pn T x := by
  obtain ⟨tv, R, e, vp, t1, t2, t3, t4, t5, P, tc, ec, rfl, hR, hp, hnd, hP, rfl⟩ := hA
  refine ⟨⟨tv, by rw [H.len]⟩, ?_⟩
  have hb' : ∀ i, some j = some i → i < C.n := fun i e => by cases e; exact hj
  have hkk : k = Str.ofString "attribute" := beq_iff_eq.mp hk
  have hC' : isCh k = false := by rw [hkk]; decide
  have hN' : isNs k = false := by rw [hkk]; decide
  have hok : (C.add k (some j)).Ok := H.ok.add (fun i e => by cases e; exact ⟨hj, .inr he, fun _ => he⟩) (.inr (.inl hk))
  refine H.push hok hz (by simp) (fun i hi => ?_) (RowOk.new H.ok hb' hR hp hn hl) hnd
  obtain ⟨R', h1, h2⟩ := H.row i hi
  by_cases e : i = j
  · subst e
    rw [hP] at h1; cases h1
    refine ⟨_, by rw [List.getElem?_set, if_pos rfl, if_pos (by rw [H.len]; exact hi)], ?_⟩
    refine h2.step hi rfl rfl rfl rfl rfl ?_ ?_ ?_
    · rw [sub_keep (by simp [hC'])]; exact h2.cs
    · rw [sub_more hk, natInts_snoc, H.len]; exact ints_snoc h2.as
    · rw [sub_keep (by simp [hN'])]; exact h2.ns
  · exact ⟨R', by rw [List.getElem?_set, if_neg (fun q => e q.symm)]; exact h1, h2.keep hi (fun q => e (Option.some.inj q).symm)⟩
theorem Store.addedN {j : Nat} (H : Store w C kn pn T τ) (hA : τ.AddedN w j k n u l v val x) (hz : C.n + 1 < 100) (hj : j < C.n) (he : C.kind j = Str.ofString "element")
    (hk : isNs k = true) (hn : NoName pn T n) (hl : NoName kn T l) : (∃ t, val = .int (C.n : Int) t) ∧ Store w (C.add k (some j)) kn pn T x := by
  obtain ⟨tv, R, e, vp, t1, t2, t3, t4, t5, P, tc, ec, rfl, hR, hp, hnd, hP, rfl⟩ := hA
  refine ⟨⟨tv, by rw [H.len]⟩, ?_⟩
  have hb' : ∀ i, some j = some i → i < C.n := fun i e => by cases e; exact hj
  have hkk : k = Str.ofString "namespace" := beq_iff_eq.mp hk
  have hC' : isCh k = false := by rw [hkk]; decide
  have hA' : isAt k = false := by rw [hkk]; decide
  have hok : (C.add k (some j)).Ok := H.ok.add (fun i e => by cases e; exact ⟨hj, .inr he, fun _ => he⟩) (.inr (.inr (.inl hk)))
  refine H.push hok hz (by simp) (fun i hi => ?_) (RowOk.new H.ok hb' hR hp hn hl) hnd
  obtain ⟨R', h1, h2⟩ := H.row i hi
  by_cases e : i = j
  · subst e
    rw [hP] at h1; cases h1
    refine ⟨_, by rw [List.getElem?_set, if_pos rfl, if_pos (by rw [H.len]; exact hi)], ?_⟩
    refine h2.step hi rfl rfl rfl rfl rfl ?_ ?_ ?_
    · rw [sub_keep (by simp [hC'])]; exact h2.cs
    · rw [sub_keep (by simp [hA'])]; exact h2.as
    · rw [sub_more hk, natInts_snoc, H.len]; exact ints_snoc h2.ns
  · exact ⟨R', by rw [List.getElem?_set, if_neg (fun q => e q.symm)]; exact h1, h2.keep hi (fun q => e (Option.some.inj q).symm)⟩
end
end
section
example : True := by
  w_top off
  k_with_none
  k_with "!c1" => first | assumption | exact And.right (by k_extra "!c2") | fail
  k_with "!c2" => first | assumption | exact And.right (by k_extra "!c3") | fail
  k_with "!c3" => first | assumption | exact And.right (by k_extra "!c4") | fail
  k_with "!c4" => first | assumption | exact And.right (by k_extra "!c5") | fail
  k_with "!c5" => first | assumption | exact And.right (by k_extra "!c6") | fail
  k_with "!c6" => first | assumption | exact And.right (by k_extra "!c7") | fail
  k_with "!c7" => first | assumption | exact And.right (by k_extra "!c8") | fail
  k_with "!c8" => assumption
  k_with "!lt9" => with_reducible first | exact And.left (by k_extra "!c1") | exact And.right (by k_extra "!c1") | fail
  k_with "!omega" => with_reducible first | exact lt_dp (by assumption) (by with_unfolding_all exact rfl) | exact lt_un (by assumption) (by with_unfolding_all exact rfl) | assumption | exact Ne.symm (by assumption) | exact Nat.ne_of_lt (by assumption) | exact Nat.ne_of_gt (by assumption) | exact le_big (by assumption) (by with_unfolding_all exact rfl) | exact le_big2 (by assumption) (by with_unfolding_all exact rfl) | exact lt_big (by assumption) (by with_unfolding_all exact rfl) | exact Nat.le_of_ble_eq_true (by with_unfolding_all exact rfl) | exact Nat.ne_of_gt (lt_s (by assumption)) | exact Nat.ne_of_gt (lt_s (lt_s (by assumption))) | exact Nat.ne_of_gt (lt_s (lt_s (lt_s (by assumption)))) | exact Nat.ne_of_lt (by k_extra "!lt9") | exact Nat.ne_of_gt (by k_extra "!lt9") | (refine Nat.lt_of_lt_of_le ?_ (Nat.le_refl _); k_extra "!lt9") | fail
  k_with "!call builtin:len" => (k_here; (with_reducible show wpAny _ _ (call (Value.builtin "len") [Value.ref _]) _ _ _); k_dflt (refine' L_len ?N ?m ?z ?_; (case N => k_asm); (case m => k_mem); (case z => omega); k_whole))
  k_with "!item" => first | (k_here; (with_reducible show wpAny _ _ (subscriptTail _ _ (Value.ref _) (Value.int _ _)) _ _ _); k_dflt (refine' kim_list ?N ?m ?c ?d ?z ?f ?x ?_; (case N => k_asm); (case m => k_mem); (case c => rfl); (case d => rfl); (case z => omega); (case f => omega); (case x => (try simp only [Int.toNat_natCast]); first | assumption | rfl | exact List.getElem?_eq_getElem (by omega)); k_whole)) | (k_here; (with_reducible show wpAny _ _ (subscriptTail _ _ (Value.ref _) (Value.int _ _)) _ _ _); k_dflt (refine' kda_item (knd := PySem.intKind _ _) ?N ?m ?d (intKind_is _ _ _ _) ?v ?_; (case N => k_asm); (case d => assumption); (case m => k_mem); (case v => assumption); k_whole))
  k_with "!subscriptTail" => k_extra "!item"
  k_with "!subscriptTail Name Constant ref int" => k_extra "!item"
  k_with "!subscriptTail Name Name ref int" => k_extra "!item"
  k_with "!k_all" => first | exact ne_of_allLt (by assumption) | exact ne_of_allLt (And.right (by assumption)) | exact ne_of_allLt (And.right (And.right (by assumption)))
  k_with "!sub" => first | exact fun _ h => h | (with_reducible assumption) | exact sub_app (by assumption) | exact sub_app (fun _ h => h) | exact (fun _ h => List.mem_append_right _ h) | (refine sub_cc ?_; k_extra "!sub") | (refine sub_tl ?_; k_extra "!sub")
  k_with "!U" => ((case B => assumption); (case F => k_asm); (case X => assumption); (case T => assumption); (case hf => exact rfl); (case hk => exact rfl); (case N => k_asm); (case hs => k_extra "!sub"); (case hdp => ((try dsimp only); omega)); (case hun => ((try dsimp only); omega)); k_whole)
  k_with "!k_handed" => with_reducible assumption
  k_with "!call type:list" => (k_here; (with_reducible show wpAny _ _ (call (Value.type "list") [Value.ref _]) _ _ _); k_dflt (refine' L_copy ?F ?N ?m ?z ?_; (case F => k_asm); (case N => k_asm); (case m => k_mem); (case z => omega); k_whole); intro zqD zqc zqh zqF zqN zql1; (try simp only [AllLt, and_true] at zql1))
  k_with "!k_all" => first | exact ne_of_allNe (by assumption) | exact ne_of_allNe (And.right (by assumption)) | exact ne_of_allNe (And.right (And.right (by assumption)))
  k_with "!subscriptTail Name Call ref int" => k_extra "!item"
  k_with "!exec While Compare cons nil" => k_extra "exec While Compare cons nil"
  k_with "!call ref" => k_extra "call ref"
  k_with "!k_all" => first | exact ne_of_lts2 (by assumption) | (with_reducible assumption)
  k_with "!k_mem" => assumption
  k_with "!callWith ref" => (k_here; k_dflt (first | (refine' callWith_K ?k1 ?k2 ?_; (case k1 => k_asm); (case k2 => k_is); k_whole) | (refine' callWith_K0 ?k1 ?k2 ?_; (case k1 => k_in); (case k2 => k_is); k_whole) | (refine' callWith_M0 ?k1 ?k2 ?_; (case k1 => k_meth); (case k2 => k_is); k_whole; try dsimp only [List.nil_append, List.cons_append]) | (refine' callWith_M ?k1 ?k2 ?k3 ?k4 ?_; (case k1 => k_asm); (case k2 => k_asm); (case k3 => k_mem); (case k4 => k_is); k_whole) | (refine' callWith_F ?k1 ?_; (case k1 => exact FnAt.of (by k_asm) (by k_mem)); k_whole)))
  k_with "!exec For Name Call cons nil" => k_extra "exec For"
  k_with "!exec For Name Name cons nil" => k_extra "exec For"
  k_with "!exec For Name Attribute cons nil" => k_extra "exec For"
  k_with "!pyIter ref" => k_extra "pyIter ref"
  k_with "!revslice" => (k_here; (with_reducible show wpAny _ _ (subscriptTail _ (PySem.Expr.Slice none none (some _) _) (Value.ref _) (Value.ref _)) _ _ _); k_dflt (refine' krv_ints ?F ?N ?l ?k ?i ?_ ?s ?t ?z; (case F => k_asm); (case N => k_asm); (case l => exact L_isList (by k_asm) (by k_mem)); (case k => exact IsPart.int _ _); (case i => assumption); (case s => with_unfolding_all rfl); (case t => (intro _; with_unfolding_all rfl)); (case z => (rw [List.size_toArray, sizeLine_eq]; omega))); intro zqD zqws zqh zqF zqN zql1 zqhI zqhC; (have zqhW := IntsAre.length zqhI); (replace zql1 := allLt_of zql1); (try simp only [AllLt, and_true] at zql1))
  k_with "!subscriptTail Name Slice ref ref" => k_extra "!revslice"
  k_with "!subscriptTail Subscript Slice ref ref" => k_extra "!revslice"
  k_with "!subscriptTail Subscript Constant ref int" => k_extra "!item"
  k_with "!compareOp In int ref" => (k_here; k_dflt (refine' in_list_ints ?hl ?hi ?_; (case hl => exact L_isList (by k_asm) (by k_mem)); (case hi => assumption); k_whole))
  k_with "!exec Assign cons ListComp" => (k_here; (rename Fr _ _ _ _ => zqlF9); k_dflt (refine comp_assign zqlF9 (by rfl) (by with_unfolding_all rfl) (by with_unfolding_all rfl) (by decide) (by rfl) (by decide) (by rfl) (by rfl) (by rfl) ?_))
  k_with "!eval ListComp" => (k_here; (rename Fr _ _ _ _ => zqlF9); k_dflt (refine comp_expr zqlF9 (by with_unfolding_all rfl) (by decide) (by rfl) (by decide) (by rfl) ?_))
  k_with "!eval Name" => (k_here; kc_free; k_dflt (refine' nameX_F ?N ?c ?m ?d ?_ ?a ?b; (case a => rfl); (case b => rfl); (case N => k_asm); (case c => rfl); (case m => k_mem); (case d => k_asm); k_whole))
  k_with "!U3" => ((case N => k_asm); (case hs => exact fun _ h => h); (case hsub => k_extra "!sub"); (case B => assumption); (case F => k_asm); (case X => assumption); (case T => assumption); (case hf => exact rfl); (case hk => exact rfl); (case hdp => ((try dsimp only); omega)); (case hun => ((try dsimp only); omega)))
  k_with "!lamB1" => ((case m1 => k_mem); (case m2 => k_mem); (case m3 => assumption); (case m4 => assumption); (case m5 => k_mem); (case m6 => assumption); (case m7 => k_mem))
  k_with "!lamS1" => ((case n1 => k_mem); (case n2 => k_mem); (case n3 => assumption); (case n4 => assumption); (case n5 => k_mem); (case n6 => assumption); (case n7 => k_mem))
  k_with "!exec Return some" => k_extra "exec Return some"
  k_with "!call builtin:len" => (k_here; (with_reducible show wpAny _ _ (call (Value.builtin "len") [Value.ref _]) _ _ _); k_dflt (refine' L_len ?N ?m ?z ?_; (case N => k_asm); (case m => k_mem); (case z => ((simp only [List.length_append, List.length_cons, List.length_nil]); omega)); k_whole))
  k_with "!U5" => ((case B => assumption); (case F => k_asm); (case X => assumption); (case T => assumption); (case hf => exact rfl); (case hk => exact rfl); (case N => k_asm); (case hdp => ((try dsimp only); omega)); (case hun => ((try dsimp only); omega)); k_whole)
  trivial
section
variable {w : World} {C : Core} {kn pn kn' pn' : Nat → Str} {T T' : Nat} {τ τ' : TreeC} {o : Option Nat} {k : Str}
theorem up_add (H : Store w C kn pn T τ) (H' : Store w (C.add k o) kn' pn' T' τ') : ∀ i, i < C.n → (C.add k o).shape.up (some i) = C.shape.up (some i) := by
  intro i
  induction i using Nat.strongRecOn with
  | ind i ih =>
    intro hi
    rw [Shape.up_some H'.of (show i < (C.add k o).shape.n from Nat.lt_succ_of_lt hi), Shape.up_some H.of hi]
    have hp : (C.add k o).shape.par i = C.shape.par i := if_neg (Nat.ne_of_lt hi)
    rw [hp]
    cases e : C.shape.par i with
    | none => rfl
    | some j => rw [ih j (H.ok.below i j hi e) (Nat.lt_trans (H.ok.below i j hi e) hi)]
theorem up_new (H : Store w C kn pn T τ) (H' : Store w (C.add k o) kn' pn' T' τ') (hb : ∀ j, o = some j → j < C.n) : (C.add k o).shape.up (some C.n) = C.n :: C.shape.up o := by
  rw [Shape.up_some H'.of (show C.n < (C.add k o).shape.n from Nat.lt_succ_self _), show (C.add k o).shape.par C.n = o from if_pos rfl]
  cases o with
  | none => rfl
  | some j => rw [up_add H H' j (hb j rfl)]
theorem kvsFrom_snoc : ∀ (l : List EntC) (E : EntC) (i : Nat), kvsFrom i (l ++ [E]) = kvsFrom i l ++ [(((i + l.length : Nat) : Int), .ref E.e)]
  | [], _, _ => rfl
  | a :: r, E, i => by
    simp only [List.cons_append, kvsFrom, kvsFrom_snoc r E (i + 1), List.length_cons]
    rw [show i + 1 + r.length = i + (r.length + 1) from by omega]
theorem rowsof_add (H : Store w C kn pn T τ) (H' : Store w (C.add k o) kn' pn' T' τ') (hb : ∀ j, o = some j → j < C.n) {ρ : RowsC} (hρ : RowsOf w C.shape ρ) {E : EntC} (hE : ∃ t, E.vk = .str k t)
    (hpv : IntsAre E.pv (natInts ((C.shape.up o).reverse ++ [C.n]))) {od : Obj} (hd : od.IsDictOf (PySem.intKind Prg w) (kvsFrom 0 (ρ.ents ++ [E]))) : RowsOf w (C.add k o).shape ⟨ρ.D, od, ρ.ents ++ [E]⟩ where
  len := by simp only [List.length_append, List.length_cons, List.length_nil, hρ.len]; rfl
  dict := hd
  lo := hρ.lo
  ent := fun i hi => by
    have hi' : i < C.n + 1 := hi
    have hl : ρ.ents.length = C.n := hρ.len
    by_cases e : i = C.n
    · subst e
      refine ⟨E, ?_, ?_, ?_⟩
      · show (ρ.ents ++ [E])[C.n]? = some E
        rw [List.getElem?_append_right (by omega), hl, Nat.sub_self]; rfl
      · rw [show (C.add k o).shape.kind C.n = k from if_pos rfl]; exact hE
      · rw [up_new H H' hb, List.reverse_cons]; exact hpv
    · obtain ⟨E', h1, h2, h3⟩ := hρ.ent i (show i < C.n by omega)
      refine ⟨E', ?_, ?_, ?_⟩
      · show (ρ.ents ++ [E])[i]? = some E'
        rw [List.getElem?_append_left (by omega)]; exact h1
      · rw [show (C.add k o).shape.kind i = C.kind i from if_neg e]; exact h2
      · rw [up_add H H' i (by omega)]; exact h3
end
end
section
example : True := by
  w_top off
  k_with_none
  k_with "!c1" => first | assumption | exact And.right (by k_extra "!c2") | fail
  k_with "!c2" => first | assumption | exact And.right (by k_extra "!c3") | fail
  k_with "!c3" => first | assumption | exact And.right (by k_extra "!c4") | fail
  k_with "!c4" => first | assumption | exact And.right (by k_extra "!c5") | fail
  k_with "!c5" => first | assumption | exact And.right (by k_extra "!c6") | fail
  k_with "!c6" => first | assumption | exact And.right (by k_extra "!c7") | fail
  k_with "!c7" => first | assumption | exact And.right (by k_extra "!c8") | fail
  k_with "!c8" => assumption
  k_with "!lt9" => with_reducible first | exact And.left (by k_extra "!c1") | exact And.right (by k_extra "!c1") | fail
  k_with "!omega" => with_reducible first | exact lt_dp (by assumption) (by with_unfolding_all exact rfl) | exact lt_un (by assumption) (by with_unfolding_all exact rfl) | assumption | exact Ne.symm (by assumption) | exact Nat.ne_of_lt (by assumption) | exact Nat.ne_of_gt (by assumption) | exact le_big (by assumption) (by with_unfolding_all exact rfl) | exact le_big2 (by assumption) (by with_unfolding_all exact rfl) | exact lt_big (by assumption) (by with_unfolding_all exact rfl) | exact Nat.le_of_ble_eq_true (by with_unfolding_all exact rfl) | exact Nat.ne_of_gt (lt_s (by assumption)) | exact Nat.ne_of_gt (lt_s (lt_s (by assumption))) | exact Nat.ne_of_gt (lt_s (lt_s (lt_s (by assumption)))) | exact Nat.ne_of_lt (by k_extra "!lt9") | exact Nat.ne_of_gt (by k_extra "!lt9") | (refine Nat.lt_of_lt_of_le ?_ (Nat.le_refl _); k_extra "!lt9") | fail
  k_with "!call builtin:len" => (k_here; (with_reducible show wpAny _ _ (call (Value.builtin "len") [Value.ref _]) _ _ _); k_dflt (refine' L_len ?N ?m ?z ?_; (case N => k_asm); (case m => k_mem); (case z => omega); k_whole))
  k_with "!item" => first | (k_here; (with_reducible show wpAny _ _ (subscriptTail _ _ (Value.ref _) (Value.int _ _)) _ _ _); k_dflt (refine' kim_list ?N ?m ?c ?d ?z ?f ?x ?_; (case N => k_asm); (case m => k_mem); (case c => rfl); (case d => rfl); (case z => omega); (case f => omega); (case x => (try simp only [Int.toNat_natCast]); first | assumption | rfl | exact List.getElem?_eq_getElem (by omega)); k_whole)) | (k_here; (with_reducible show wpAny _ _ (subscriptTail _ _ (Value.ref _) (Value.int _ _)) _ _ _); k_dflt (refine' kda_item (knd := PySem.intKind _ _) ?N ?m ?d (intKind_is _ _ _ _) ?v ?_; (case N => k_asm); (case d => assumption); (case m => k_mem); (case v => assumption); k_whole))
  k_with "!subscriptTail" => k_extra "!item"
  k_with "!subscriptTail Name Constant ref int" => k_extra "!item"
  k_with "!subscriptTail Name Name ref int" => k_extra "!item"
  k_with "!k_all" => first | exact ne_of_allLt (by assumption) | exact ne_of_allLt (And.right (by assumption)) | exact ne_of_allLt (And.right (And.right (by assumption)))
  k_with "!sub" => first | exact fun _ h => h | (with_reducible assumption) | exact sub_app (by assumption) | exact sub_app (fun _ h => h) | exact (fun _ h => List.mem_append_right _ h) | (refine sub_cc ?_; k_extra "!sub") | (refine sub_tl ?_; k_extra "!sub")
  k_with "!U" => ((case B => assumption); (case F => k_asm); (case X => assumption); (case T => assumption); (case hf => exact rfl); (case hk => exact rfl); (case N => k_asm); (case hs => k_extra "!sub"); (case hdp => ((try dsimp only); omega)); (case hun => ((try dsimp only); omega)); k_whole)
  k_with "!k_handed" => with_reducible assumption
  k_with "!call type:list" => (k_here; (with_reducible show wpAny _ _ (call (Value.type "list") [Value.ref _]) _ _ _); k_dflt (refine' L_copy ?F ?N ?m ?z ?_; (case F => k_asm); (case N => k_asm); (case m => k_mem); (case z => omega); k_whole); intro zqD zqc zqh zqF zqN zql1; (try simp only [AllLt, and_true] at zql1))
  k_with "!k_all" => first | exact ne_of_allNe (by assumption) | exact ne_of_allNe (And.right (by assumption)) | exact ne_of_allNe (And.right (And.right (by assumption)))
  k_with "!subscriptTail Name Call ref int" => k_extra "!item"
  k_with "!exec While Compare cons nil" => k_extra "exec While Compare cons nil"
  k_with "!call ref" => k_extra "call ref"
  k_with "!k_all" => first | exact ne_of_lts2 (by assumption) | (with_reducible assumption)
  k_with "!k_mem" => assumption
  k_with "!callWith ref" => (k_here; k_dflt (first | (refine' callWith_K ?k1 ?k2 ?_; (case k1 => k_asm); (case k2 => k_is); k_whole) | (refine' callWith_K0 ?k1 ?k2 ?_; (case k1 => k_in); (case k2 => k_is); k_whole) | (refine' callWith_M0 ?k1 ?k2 ?_; (case k1 => k_meth); (case k2 => k_is); k_whole; try dsimp only [List.nil_append, List.cons_append]) | (refine' callWith_M ?k1 ?k2 ?k3 ?k4 ?_; (case k1 => k_asm); (case k2 => k_asm); (case k3 => k_mem); (case k4 => k_is); k_whole) | (refine' callWith_F ?k1 ?_; (case k1 => exact FnAt.of (by k_asm) (by k_mem)); k_whole)))
  k_with "!exec For Name Call cons nil" => k_extra "exec For"
  k_with "!exec For Name Name cons nil" => k_extra "exec For"
  k_with "!exec For Name Attribute cons nil" => k_extra "exec For"
  k_with "!pyIter ref" => k_extra "pyIter ref"
  k_with "!revslice" => (k_here; (with_reducible show wpAny _ _ (subscriptTail _ (PySem.Expr.Slice none none (some _) _) (Value.ref _) (Value.ref _)) _ _ _); k_dflt (refine' krv_ints ?F ?N ?l ?k ?i ?_ ?s ?t ?z; (case F => k_asm); (case N => k_asm); (case l => exact L_isList (by k_asm) (by k_mem)); (case k => exact IsPart.int _ _); (case i => assumption); (case s => with_unfolding_all rfl); (case t => (intro _; with_unfolding_all rfl)); (case z => (rw [List.size_toArray, sizeLine_eq]; omega))); intro zqD zqws zqh zqF zqN zql1 zqhI zqhC; (have zqhW := IntsAre.length zqhI); (replace zql1 := allLt_of zql1); (try simp only [AllLt, and_true] at zql1))
  k_with "!subscriptTail Name Slice ref ref" => k_extra "!revslice"
  k_with "!subscriptTail Subscript Slice ref ref" => k_extra "!revslice"
  k_with "!subscriptTail Subscript Constant ref int" => k_extra "!item"
  k_with "!compareOp In int ref" => (k_here; k_dflt (refine' in_list_ints ?hl ?hi ?_; (case hl => exact L_isList (by k_asm) (by k_mem)); (case hi => assumption); k_whole))
  k_with "!exec Assign cons ListComp" => (k_here; (rename Fr _ _ _ _ => zqlF9); k_dflt (refine comp_assign zqlF9 (by rfl) (by with_unfolding_all rfl) (by with_unfolding_all rfl) (by decide) (by rfl) (by decide) (by rfl) (by rfl) (by rfl) ?_))
  k_with "!eval ListComp" => (k_here; (rename Fr _ _ _ _ => zqlF9); k_dflt (refine comp_expr zqlF9 (by with_unfolding_all rfl) (by decide) (by rfl) (by decide) (by rfl) ?_))
  k_with "!eval Name" => (k_here; kc_free; k_dflt (refine' nameX_F ?N ?c ?m ?d ?_ ?a ?b; (case a => rfl); (case b => rfl); (case N => k_asm); (case c => rfl); (case m => k_mem); (case d => k_asm); k_whole))
  k_with "!U3" => ((case N => k_asm); (case hs => exact fun _ h => h); (case hsub => k_extra "!sub"); (case B => assumption); (case F => k_asm); (case X => assumption); (case T => assumption); (case hf => exact rfl); (case hk => exact rfl); (case hdp => ((try dsimp only); omega)); (case hun => ((try dsimp only); omega)))
  k_with "!lamB1" => ((case m1 => k_mem); (case m2 => k_mem); (case m3 => assumption); (case m4 => assumption); (case m5 => k_mem); (case m6 => assumption); (case m7 => k_mem))
  k_with "!lamS1" => ((case n1 => k_mem); (case n2 => k_mem); (case n3 => assumption); (case n4 => assumption); (case n5 => k_mem); (case n6 => assumption); (case n7 => k_mem))
  k_with "!exec Return some" => k_extra "exec Return some"
  k_with "!call builtin:len" => (k_here; (with_reducible show wpAny _ _ (call (Value.builtin "len") [Value.ref _]) _ _ _); k_dflt (refine' L_len ?N ?m ?z ?_; (case N => k_asm); (case m => k_mem); (case z => ((simp only [List.length_append, List.length_cons, List.length_nil]); omega)); k_whole))
  k_with "!U5" => ((case B => assumption); (case F => k_asm); (case X => assumption); (case T => assumption); (case hf => exact rfl); (case hk => exact rfl); (case N => k_asm); (case hdp => ((try dsimp only); omega)); (case hun => ((try dsimp only); omega)); k_whole)
  trivial
/-- a contract that grows a store, used where the store stands ahead of the rest of the ledger -/
theorem use_tree {w : World} {f : Value} {vs : List Value} {n : Nat} {τ : TreeC} {rest : List (Addr × Obj)} {Rel : Value → TreeC → Prop} {dp un : Nat} {gd : Option (List Code)} {env : Env} {outer : List Env} {A₀ : Around} {base h₀ : Heap} {L : Addr} {m : Str → Option Value}
    {p : Program} {loose : List Str} {mean : ExcName → Option Value} {mg mb : Str → Option Value} {s : Shared} {Q E : Value → Shared → Prop}
    (S : Spec w f vs n (τ.led w) (fun v h' => ∃ x : TreeC, Rel v x ∧ ∀ q ∈ x.led w, h'.get? q.1 = some q.2 ∧ (q.1 ∈ (τ.led w).map (·.1) ∨ s.heap.get? q.1 = none)) s.heap) (B : Below A₀ base outer h₀) (F : Fr h₀ L s.heap m) (X : (hd.heap_1 w.params).In h₀) (T : Top p loose mean mg mb h₀) (hf : env.frame = some L) (hk : env.scope.kind = .function)
    (N : News h₀ L s.heap (τ.led w ++ rest)) (ap : ∀ q ∈ rest, q.1 ∉ (τ.led w).map (·.1)) (hdp : dp + n < 900) (hun : un + 16 * n < 9000)
    (k : ∀ v x h' tk', Fr h₀ L h' m → News h₀ L h' (x.led w ++ rest) → (∀ q ∈ rest, q.1 ∉ (x.led w).map (·.1)) → Rel v x → Q v { s with heap := h', toks := tk' }) :
    wpAny (model Prg w) (AA dp un gd env outer) (call f vs) Q E s := by
  refine use_mut rest (led := fun x : TreeC => x.led w) (R := fun v x => Rel v x ∧ ∀ q ∈ x.led w, q.1 ∈ (τ.led w).map (·.1) ∨ s.heap.get? q.1 = none) (S.mono fun v h' ⟨x, h1, h2⟩ => ⟨x, ⟨h1, fun q hq => (h2 q hq).2⟩, h2⟩) B F X T hf hk N (fun q hq => List.mem_append_left _ hq)
    (fun q hq => ⟨List.mem_append_right _ hq, ap q hq⟩) hdp hun fun v x h' tk' F' N' fr hx => ?_
  refine k v x h' tk' F' N' (fun q hq hm => ?_) hx.1
  obtain ⟨p, hp, e⟩ := List.mem_map.mp hm
  rcases hx.2 p hp with h1 | h1
  · exact ap q hq (e ▸ h1)
  · exact fr _ h1 q (List.mem_append_right _ hq) e.symm

theorem tree0 {w : World} {g h : Heap} {L l x d : Addr} {t : Tok} {e₁ : Nat} {rest : List (Addr × Obj)} (N : News g L h ((l, listOf #[] 0) :: (x, instObj 309 d) :: (d, treeDict w l t e₁) :: rest)) (h1 : @Ne Nat l x) (h2 : @Ne Nat l d) (h3 : @Ne Nat x d) (r1 : ∀ q ∈ rest, q.1 ≠ l) (r2 : ∀ q ∈ rest, q.1 ≠ x) (r3 : ∀ q ∈ rest, q.1 ≠ d) :
    ∃ τ : TreeC, τ.aT = x ∧ τ.rows = [] ∧ ((τ.led w).map (·.1)).Nodup ∧ News g L h (τ.led w ++ rest) ∧ ∀ q ∈ rest, q.1 ∉ (τ.led w).map (·.1) := by
  refine ⟨⟨x, d, l, t, e₁, 0, []⟩, rfl, rfl, ?_, nsub N fun q hq => ?_, fun q hq hm => ?_⟩
  · simp only [TreeC.led, List.flatMap_nil, List.map_cons, List.map_nil, List.nodup_cons, List.mem_cons, List.not_mem_nil, or_false, not_or, not_false_eq_true, List.nodup_nil, and_true]
    exact ⟨⟨h3, h1.symm⟩, h2.symm⟩
  · simp only [TreeC.led, TreeC.refs, List.flatMap_nil, List.map_nil, List.cons_append, List.nil_append, List.mem_cons] at hq ⊢
    rcases hq with h | h | h | h
    · exact .inr (.inl h)
    · exact .inr (.inr (.inl h))
    · exact .inl h
    · exact .inr (.inr (.inr h))
  · simp only [TreeC.led, List.flatMap_nil, List.map_cons, List.map_nil, List.mem_cons, List.not_mem_nil, or_false] at hm
    rcases hm with e | e | e
    · exact r2 q hq e
    · exact r3 q hq e
    · exact r1 q hq e
def Core.none : Core := ⟨0, fun _ => Str.ofString "", fun _ => Option.none⟩
theorem Store.none {w : World} {kn pn : Nat → Str} {T : Nat} {τ : TreeC} (h : τ.rows = []) (nd : ((τ.led w).map (·.1)).Nodup) : Store w Core.none kn pn T τ where
  ok := ⟨fun i j h => absurd h (Nat.not_lt_zero _), fun i j h => absurd h (Nat.not_lt_zero _), fun i h => absurd h (Nat.not_lt_zero _), fun i j h => absurd h (Nat.not_lt_zero _)⟩
  len := by rw [h]; rfl
  small := by decide
  row := fun i h => absurd h (Nat.not_lt_zero _)
  nd := nd
theorem Store.can {w : World} {C : Core} {kn pn : Nat → Str} {T : Nat} {τ : TreeC} (H : Store w C kn pn T τ) {o : Option Nat} (h : ∀ j, o = some j → j < C.n ∧ (isRt (C.kind j) = true ∨ C.kind j = Str.ofString "element")) : τ.CanHold o := fun j e => by
  obtain ⟨h1, h2⟩ := h j e
  obtain ⟨R, hR, hr⟩ := H.row j h1
  obtain ⟨t, hk⟩ := hr.k
  refine ⟨R, _, t, hR, hk, ?_, ?_⟩
  · rcases h2 with q | q
    · rw [show C.kind j = Str.ofString "root" from beq_iff_eq.mp q]; decide
    · rw [q]; decide
  · rw [hr.cs.length]; simp only [natInts, List.length_map]; exact Nat.lt_of_le_of_lt Core.sub_len (Nat.lt_trans H.small (by decide))
theorem TreeC.Added.aT {w : World} {τ x : TreeC} {o : Option Nat} {k n u l v : Str} {val : Value} (h : τ.Added w o k n u l v val x) : x.aT = τ.aT := by
  obtain ⟨tv, R, e, vp, t1, t2, t3, t4, t5, -, -, -, -, hx⟩ := h
  rcases hx with ⟨-, rfl⟩ | ⟨j, P, tc, ec, -, -, rfl⟩ <;> rfl
theorem TreeC.AddedA.aT {w : World} {τ x : TreeC} {j : Nat} {k n u l v : Str} {val : Value} (h : τ.AddedA w j k n u l v val x) : x.aT = τ.aT := by
  obtain ⟨tv, R, e, vp, t1, t2, t3, t4, t5, P, tc, ec, -, -, -, -, -, rfl⟩ := h; rfl
theorem TreeC.AddedN.aT {w : World} {τ x : TreeC} {j : Nat} {k n u l v : Str} {val : Value} (h : τ.AddedN w j k n u l v val x) : x.aT = τ.aT := by
  obtain ⟨tv, R, e, vp, t1, t2, t3, t4, t5, P, tc, ec, -, -, -, -, -, rfl⟩ := h; rfl
def kName (t : Nat) : Str := Str.ofString "k" ++ Str.ofString (toString ((t : Nat) : Int))
def pName (t : Nat) : Str := Str.ofString "p" ++ Str.ofString (toString ((t : Nat) : Int))
theorem noName_of {f : Nat → Str} {T : Nat} {s : Str} (h : ∀ t : Fin 8, s ≠ f t.val) : NoName f T s := fun t _ ht => h ⟨t, ht⟩
theorem noK_empty {T : Nat} : NoName kName T (Str.ofString "") := noName_of (by decide +kernel)
theorem noP_empty {T : Nat} : NoName pName T (Str.ofString "") := noName_of (by decide +kernel)
theorem noK_r {T : Nat} : NoName kName T (Str.ofString "r") := noName_of (by decide +kernel)
theorem noP_r {T : Nat} : NoName pName T (Str.ofString "r") := noName_of (by decide +kernel)
theorem noK_e {T : Nat} : NoName kName T (Str.ofString "e") := noName_of (by decide +kernel)
theorem noP_e {T : Nat} : NoName pName T (Str.ofString "e") := noName_of (by decide +kernel)
theorem noK_t {T : Nat} : NoName kName T (Str.ofString "t") := noName_of (by decide +kernel)
theorem noP_t {T : Nat} : NoName pName T (Str.ofString "t") := noName_of (by decide +kernel)
theorem noK_k {T : Nat} : NoName kName T (Str.ofString "k") := noName_of (by decide +kernel)
theorem noP_k {T : Nat} : NoName pName T (Str.ofString "k") := noName_of (by decide +kernel)
theorem noK_k1 {T : Nat} (hT : T < 8) : NoName kName (T + 1) (kName T) := fun t h1 h2 => (by decide +kernel : ∀ a b : Fin 8, a.val < b.val → kName a.val ≠ kName b.val) ⟨T, hT⟩ ⟨t, h2⟩ h1
theorem noP_k1 {T T' : Nat} (hT : T < 8) : NoName pName T' (kName T) := fun t h1 h2 => (by decide +kernel : ∀ a b : Fin 8, kName a.val ≠ pName b.val) ⟨T, hT⟩ ⟨t, h2⟩
theorem noP_p1 {T : Nat} (hT : T < 8) : NoName pName (T + 1) (pName T) := fun t h1 h2 => (by decide +kernel : ∀ a b : Fin 8, a.val < b.val → pName a.val ≠ pName b.val) ⟨T, hT⟩ ⟨t, h2⟩ h1
theorem noK_p1 {T T' : Nat} (hT : T < 8) : NoName kName T' (pName T) := fun t h1 h2 => (by decide +kernel : ∀ a b : Fin 8, pName a.val ≠ kName b.val) ⟨T, hT⟩ ⟨t, h2⟩
theorem flip {h₀ h : Heap} {L : Addr} {l r : List (Addr × Obj)} (N : News h₀ L h (l ++ r)) : News h₀ L h (r ++ l) := nsub N fun q hq => by
  rcases List.mem_append.mp hq with h | h
  · exact List.mem_append_right _ h
  · exact List.mem_append_left _ h
theorem apart_flip {l r : List (Addr × Obj)} (h : ∀ q ∈ r, q.1 ∉ l.map (·.1)) : ∀ q ∈ r, ∀ p ∈ l, p.1 ≠ q.1 := fun q hq p hp e => h q hq (List.mem_map.mpr ⟨p, hp, e⟩)
abbrev RowsC.tail (ρ : RowsC) : List (Addr × Obj) := ρ.ents.flatMap EntC.led
/-- how _law_grown stands ahead of its turn k -/
structure GrowOk (w : World) (src : Addr) (k : Nat) (C : Core) (τ : TreeC) (ρ : RowsC) (y : Int) (inr : Addr) (us : List Value) (r : List Nat) : Prop where
  y0 : 0 ≤ y
  y1 : y < 2147483648
  st : Store w C kName pName k τ
  n : C.n = k + 2
  rows : RowsOf w C.shape ρ
  us : IntsAre us (natInts (0 :: r))
  r0 : r ≠ []
  r1 : r.length ≤ k + 1
  rk : ∀ j ∈ r, j < C.n ∧ C.kind j = Str.ofString "element"
  rt : isRt (C.kind 0) = true
  si : @Ne Nat src inr
  sD : @Ne Nat src ρ.D
  iD : @Ne Nat inr ρ.D
  os : ∀ p ∈ τ.led w ++ ρ.tail, p.1 ≠ src
  oi : ∀ p ∈ τ.led w ++ ρ.tail, p.1 ≠ inr
  oD : ∀ p ∈ τ.led w ++ ρ.tail, p.1 ≠ ρ.D
  ap : ∀ q ∈ ρ.tail, q.1 ∉ (τ.led w).map (·.1)
  nd : (ρ.tail.map (·.1)).Nodup
def GInv (w : World) (src : Addr) (k : Nat) (m : Str → Option Value) (nx : List (Addr × Obj)) : Prop :=
  ∃ (C : Core) (τ : TreeC) (ρ : RowsC) (x y : Int) (tx ty : Tok) (n : Nat) (inr : Addr) (us : List Value) (c : Nat) (r : List Nat),
    nx = (src, listOf #[.int x tx, .int y ty] n) :: (inr, listOf us.toArray c) :: (ρ.D, ρ.od) :: (τ.led w ++ ρ.tail) ∧ GrowOk w src k C τ ρ y inr us r ∧
    m (Str.ofString "source") = some (.ref src) ∧ m (Str.ofString "tree") = some (.ref τ.aT) ∧ m (Str.ofString "rows") = some (.ref ρ.D) ∧ m (Str.ofString "inner") = some (.ref inr)
abbrev Core.two : Core := (Core.none.add (Str.ofString "root") Option.none).add (Str.ofString "element") (some 0)
theorem grow0 {w : World} {g h : Heap} {L src inr D D9 e0 e1 p0 p1 : Addr} {T9 od : Obj} {t1 t2 te tr tx ty : Tok} {c1 c2 c3 c4 c5 n : Nat} {x y : Int} {τ : TreeC} {m : Str → Option Value} (_F : Fr g L h m)
    (N : News g L h ((D9, T9) :: (inr, listOf #[.int 0 t1, .int 1 t2] c1) :: (e1, listOf #[.str (Str.ofString "element") te, .ref p1] c2) :: (p1, listOf #[.int 0 t1, .int 1 t2] c3) :: (e0, listOf #[.str (Str.ofString "root") tr, .ref p0] c4) :: (p0, listOf #[.int 0 t1] c5) :: (D, od) :: (src, listOf #[.int x tx, .int y ty] n) :: τ.led w))
    (hd : od.IsDictOf (PySem.intKind Prg w) (intKeyPairs [(.int 0 t1, .ref e0), (.int 1 t2, .ref e1)])) (lo : (D == sysModules) = false) (H : Store w Core.two kName pName 0 τ)
    (o1 : @LT.lt Nat instLTNat src D) (o2 : @LT.lt Nat instLTNat D p0) (o3 : @LT.lt Nat instLTNat p0 e0) (o4 : @LT.lt Nat instLTNat e0 p1) (o5 : @LT.lt Nat instLTNat p1 e1) (o6 : @LT.lt Nat instLTNat e1 inr)
    (hD : ∀ q ∈ τ.led w, @LT.lt Nat instLTNat q.1 D) (hs : ∀ q ∈ τ.led w, q.1 ≠ src) (y0 : 0 ≤ y) (y1 : y < 2147483648)
    (m1 : m (Str.ofString "source") = some (.ref src)) (m2 : m (Str.ofString "tree") = some (.ref τ.aT)) (m3 : m (Str.ofString "rows") = some (.ref D)) (m4 : m (Str.ofString "inner") = some (.ref inr)) :
    ∃ nx, News g L h nx ∧ GInv w src 0 m nx := by
  have hB : ∀ q ∈ (⟨D, od, [⟨e0, p0, .str (Str.ofString "root") tr, c4, c5, [.int 0 t1]⟩, ⟨e1, p1, .str (Str.ofString "element") te, c2, c3, [.int 0 t1, .int 1 t2]⟩]⟩ : RowsC).tail, @LT.lt Nat instLTNat D q.1 ∧ @LT.lt Nat instLTNat q.1 inr := by
    intro q hq
    simp only [RowsC.tail, EntC.led, List.flatMap_cons, List.flatMap_nil, List.append_nil, List.cons_append, List.nil_append, List.mem_cons, List.not_mem_nil, or_false] at hq
    rcases hq with rfl | rfl | rfl | rfl <;> exact ⟨by dsimp only; omega, by dsimp only; omega⟩
  refine ⟨_, ?_, Core.two, τ, ⟨D, od, [⟨e0, p0, .str (Str.ofString "root") tr, c4, c5, [.int 0 t1]⟩, ⟨e1, p1, .str (Str.ofString "element") te, c2, c3, [.int 0 t1, .int 1 t2]⟩]⟩, x, y, tx, ty, n, inr, [.int 0 t1, .int 1 t2], c1, [1], rfl, ?_, m1, m2, m3, m4⟩
  · refine nsub N fun q hq => ?_
    simp only [RowsC.tail, EntC.led, List.flatMap_cons, List.flatMap_nil, List.append_nil, List.cons_append, List.nil_append, List.mem_cons, List.mem_append, List.not_mem_nil, or_false] at hq ⊢
    rcases hq with h | h | h | h | h | h | h | h
    all_goals simp [h]
  · refine ⟨y0, y1, H, rfl, ⟨rfl, hd, lo, ?_⟩, .cons _ _ (.cons _ _ .nil), by simp, by simp, ?_, rfl, ?_, ?_, ?_, ?_, ?_, ?_, ?_, ?_⟩
    · intro i hi
      have hi' : i < 2 := hi
      match i, hi' with
      | 0, _ => exact ⟨_, rfl, ⟨tr, rfl⟩, .cons _ _ .nil⟩
      | 1, _ => exact ⟨_, rfl, ⟨te, rfl⟩, .cons _ _ (.cons _ _ .nil)⟩
    · intro j hj
      rw [List.mem_singleton.mp hj]
      exact ⟨by decide, rfl⟩
    · exact Nat.ne_of_lt (by omega)
    · exact Nat.ne_of_lt o1
    · exact Nat.ne_of_gt (by dsimp only; omega)
    · intro p hp
      rcases List.mem_append.mp hp with hp | hp
      · exact hs p hp
      · exact Nat.ne_of_gt (Nat.lt_trans o1 (hB p hp).1)
    · intro p hp
      rcases List.mem_append.mp hp with hp | hp
      · exact Nat.ne_of_lt (Nat.lt_trans (hD p hp) (by omega))
      · exact Nat.ne_of_lt (hB p hp).2
    · intro p hp
      rcases List.mem_append.mp hp with hp | hp
      · exact Nat.ne_of_lt (hD p hp)
      · exact Nat.ne_of_gt (hB p hp).1
    · intro q hq hm
      obtain ⟨p, hp, e⟩ := List.mem_map.mp hm
      have h1 := hD p hp
      have h2 := (hB q hq).1
      rw [← e] at h2
      exact Nat.lt_asymm h1 h2
    · simp only [RowsC.tail, EntC.led, List.flatMap_cons, List.flatMap_nil, List.append_nil, List.cons_append, List.nil_append, List.map_cons, List.map_nil, List.nodup_cons, List.mem_cons, List.not_mem_nil, or_false, not_or, List.nodup_nil, and_true, not_false_eq_true]
      exact ⟨⟨Nat.ne_of_gt o3, Nat.ne_of_lt (by omega), Nat.ne_of_lt (by omega)⟩, ⟨Nat.ne_of_lt (by omega), Nat.ne_of_lt (by omega)⟩, Nat.ne_of_gt o5⟩
end

section
example : True := by
  w_top off
  k_with_none
  k_with "!c1" => first | assumption | exact And.right (by k_extra "!c2") | fail
  k_with "!c2" => first | assumption | exact And.right (by k_extra "!c3") | fail
  k_with "!c3" => first | assumption | exact And.right (by k_extra "!c4") | fail
  k_with "!c4" => first | assumption | exact And.right (by k_extra "!c5") | fail
  k_with "!c5" => first | assumption | exact And.right (by k_extra "!c6") | fail
  k_with "!c6" => first | assumption | exact And.right (by k_extra "!c7") | fail
  k_with "!c7" => first | assumption | exact And.right (by k_extra "!c8") | fail
  k_with "!c8" => assumption
  k_with "!lt9" => with_reducible first | exact And.left (by k_extra "!c1") | exact And.right (by k_extra "!c1") | fail
  k_with "!omega" => with_reducible first | exact lt_dp (by assumption) (by with_unfolding_all exact rfl) | exact lt_un (by assumption) (by with_unfolding_all exact rfl) | assumption | exact Ne.symm (by assumption) | exact Nat.ne_of_lt (by assumption) | exact Nat.ne_of_gt (by assumption) | exact le_big (by assumption) (by with_unfolding_all exact rfl) | exact le_big2 (by assumption) (by with_unfolding_all exact rfl) | exact lt_big (by assumption) (by with_unfolding_all exact rfl) | exact Nat.le_of_ble_eq_true (by with_unfolding_all exact rfl) | exact Nat.ne_of_gt (lt_s (by assumption)) | exact Nat.ne_of_gt (lt_s (lt_s (by assumption))) | exact Nat.ne_of_gt (lt_s (lt_s (lt_s (by assumption)))) | exact Nat.ne_of_lt (by k_extra "!lt9") | exact Nat.ne_of_gt (by k_extra "!lt9") | (refine Nat.lt_of_lt_of_le ?_ (Nat.le_refl _); k_extra "!lt9") | fail
  k_with "!k_all" => first | exact ne_of_allLt (by assumption) | exact ne_of_allLt (And.right (by assumption)) | exact ne_of_allLt (And.right (And.right (by assumption)))
  k_with "!sub" => first | exact fun _ h => h | (with_reducible assumption) | exact sub_app (by assumption) | exact sub_app (fun _ h => h) | exact (fun _ h => List.mem_append_right _ h) | (refine sub_cc ?_; k_extra "!sub") | (refine sub_tl ?_; k_extra "!sub")
  k_with "!U" => ((case B => assumption); (case F => k_asm); (case X => assumption); (case T => assumption); (case hf => exact rfl); (case hk => exact rfl); (case N => k_asm); (case hs => k_extra "!sub"); (case hdp => ((try dsimp only); omega)); (case hun => ((try dsimp only); omega)); k_whole)
  k_with "!k_handed" => with_reducible assumption
  k_with "!k_all" => first | exact ne_of_allNe (by assumption) | exact ne_of_allNe (And.right (by assumption)) | exact ne_of_allNe (And.right (And.right (by assumption)))
  k_with "!call ref" => k_extra "call ref"
  k_with "!k_all" => first | exact ne_of_lts2 (by assumption) | (with_reducible assumption)
  k_with "!k_mem" => assumption
  k_with "!callWith ref" => (k_here; k_dflt (first | (refine' callWith_K ?k1 ?k2 ?_; (case k1 => k_asm); (case k2 => k_is); k_whole) | (refine' callWith_K0 ?k1 ?k2 ?_; (case k1 => k_in); (case k2 => k_is); k_whole) | (refine' callWith_M0 ?k1 ?k2 ?_; (case k1 => k_meth); (case k2 => k_is); k_whole; try dsimp only [List.nil_append, List.cons_append]) | (refine' callWith_M ?k1 ?k2 ?k3 ?k4 ?_; (case k1 => k_asm); (case k2 => k_asm); (case k3 => k_mem); (case k4 => k_is); k_whole) | (refine' callWith_F ?k1 ?_; (case k1 => exact FnAt.of (by k_asm) (by k_mem)); k_whole)))
  k_with "!eval Name" => (k_here; kc_free; k_dflt (refine' nameX_F ?N ?c ?m ?d ?_ ?a ?b; (case a => rfl); (case b => rfl); (case N => k_asm); (case c => rfl); (case m => k_mem); (case d => k_asm); k_whole))
  k_with "!exec Return some" => k_extra "exec Return some"
  trivial
theorem above_spec {w : World} {τ : TreeC} {g j : Nat} {G P : RowC} {tj tk1 tg : Tok} {kd : Str} {FP : List (Addr × Obj)} {h : Heap} (hs : ∀ q ∈ τ.led w, q ∈ FP) (hG : τ.rows[g]? = some G) (hP : τ.rows[j]? = some P)
    (hgp : G.vp = .int (j : Int) tj) (hgk : G.vk = .str kd tk1) (hlen : τ.rows.length < 500) :
    Spec w (.ref 95) [.ref τ.aT, .int g tg] 8 FP (fun v h' => v = .ref (if kd = Str.ofString "attribute" then P.a else if kd = Str.ofString "namespace" then P.n else P.c) ∧ ∀ q ∈ FP, h'.get? q.1 = some q.2) h := by
  refine enter (binds := [(Str.ofString "tree", .ref τ.aT), (Str.ofString "node", .int g tg)]) (by k_is) (by k_is) (fun s => BindsTo.of_eq rfl) (locs rfl) rfl rfl rfl (by decide) ?_
  intro dp un gd env outer A₀ base g' L' h₁ p loose mean mg mb gs ds tk os B X T F N lt hdp hun kp
  k_fold
  k_with_none
  k_with "!c1" => first | assumption | exact And.right (by k_extra "!c2") | fail
  k_with "!c2" => first | assumption | exact And.right (by k_extra "!c3") | fail
  k_with "!c3" => first | assumption | exact And.right (by k_extra "!c4") | fail
  k_with "!c4" => first | assumption | exact And.right (by k_extra "!c5") | fail
  k_with "!c5" => first | assumption | exact And.right (by k_extra "!c6") | fail
  k_with "!c6" => first | assumption | exact And.right (by k_extra "!c7") | fail
  k_with "!c7" => first | assumption | exact And.right (by k_extra "!c8") | fail
  k_with "!c8" => assumption
  k_with "!lt9" => with_reducible first | exact And.left (by k_extra "!c1") | exact And.right (by k_extra "!c1") | fail
  k_with "!omega" => with_reducible first | exact lt_dp (by assumption) (by with_unfolding_all exact rfl) | exact lt_un (by assumption) (by with_unfolding_all exact rfl) | assumption | exact Ne.symm (by assumption) | exact Nat.ne_of_lt (by assumption) | exact Nat.ne_of_gt (by assumption) | exact le_big (by assumption) (by with_unfolding_all exact rfl) | exact le_big2 (by assumption) (by with_unfolding_all exact rfl) | exact lt_big (by assumption) (by with_unfolding_all exact rfl) | exact Nat.le_of_ble_eq_true (by with_unfolding_all exact rfl) | exact Nat.ne_of_gt (lt_s (by assumption)) | exact Nat.ne_of_gt (lt_s (lt_s (by assumption))) | exact Nat.ne_of_gt (lt_s (lt_s (lt_s (by assumption)))) | exact Nat.ne_of_lt (by k_extra "!lt9") | exact Nat.ne_of_gt (by k_extra "!lt9") | (refine Nat.lt_of_lt_of_le ?_ (Nat.le_refl _); k_extra "!lt9") | fail
  k_with "!k_all" => first | exact ne_of_allLt (by assumption) | exact ne_of_allLt (And.right (by assumption)) | exact ne_of_allLt (And.right (And.right (by assumption)))
  k_with "!sub" => first | exact fun _ h => h | (with_reducible assumption) | exact sub_app (by assumption) | exact sub_app (fun _ h => h) | exact (fun _ h => List.mem_append_right _ h) | (refine sub_cc ?_; k_extra "!sub") | (refine sub_tl ?_; k_extra "!sub")
  k_with "!U" => ((case B => assumption); (case F => k_asm); (case X => assumption); (case T => assumption); (case hf => exact rfl); (case hk => exact rfl); (case N => k_asm); (case hs => k_extra "!sub"); (case hdp => ((try dsimp only); omega)); (case hun => ((try dsimp only); omega)); k_whole)
  k_with "!k_handed" => with_reducible assumption
  k_with "!k_all" => first | exact ne_of_allNe (by assumption) | exact ne_of_allNe (And.right (by assumption)) | exact ne_of_allNe (And.right (And.right (by assumption)))
  k_with "!call ref" => k_extra "call ref"
  k_with "!k_all" => first | exact ne_of_lts2 (by assumption) | (with_reducible assumption)
  k_with "!k_mem" => assumption
  k_with "!callWith ref" => (k_here; k_dflt (first | (refine' callWith_K ?k1 ?k2 ?_; (case k1 => k_asm); (case k2 => k_is); k_whole) | (refine' callWith_K0 ?k1 ?k2 ?_; (case k1 => k_in); (case k2 => k_is); k_whole) | (refine' callWith_M0 ?k1 ?k2 ?_; (case k1 => k_meth); (case k2 => k_is); k_whole; try dsimp only [List.nil_append, List.cons_append]) | (refine' callWith_M ?k1 ?k2 ?k3 ?k4 ?_; (case k1 => k_asm); (case k2 => k_asm); (case k3 => k_mem); (case k4 => k_is); k_whole) | (refine' callWith_F ?k1 ?_; (case k1 => exact FnAt.of (by k_asm) (by k_mem)); k_whole)))
  k_with "!eval Name" => (k_here; kc_free; k_dflt (refine' nameX_F ?N ?c ?m ?d ?_ ?a ?b; (case a => rfl); (case b => rfl); (case N => k_asm); (case c => rfl); (case m => k_mem); (case d => k_asm); k_whole))
  k_with "!exec Return some" => k_extra "exec Return some"
  have hT1 := hs _ (.head _)
  have hT2 := hs _ (.tail _ (.head _))
  have hP1 := hs _ (TreeC.at (w := w) hP _ (.head _))
  have hP2 := hs _ (TreeC.at (w := w) hP _ (.tail _ (.head _)))
  simp only [RowC.dict] at hP2
  k_with "call ref" =>
    first
    | (refine' use_ro (parentT (FP := FP) hs hG (by omega) (by rw [hgp]; rfl)) ?B ?F ?X ?T ?hf ?hk ?N ?hs ?hdp ?hun ?_
       walk_at "U"
       intro v' h' tk' F' N' ka' hv'
       rw [hgp] at hv'
       subst hv')
    | (refine' use_ro (rowT (FP := FP) hs hP (by omega)) ?B ?F ?X ?T ?hf ?hk ?N ?hs ?hdp ?hun ?_
       walk_at "U"
       intro v' h' tk' F' N' ka' hv'
       subst hv')
    | (refine' use_ro (kindT (FP := FP) hs hG (by omega) (by rw [hgk]; rfl)) ?B ?F ?X ?T ?hf ?hk ?N ?hs ?hdp ?hun ?_
       walk_at "U"
       intro v' h' tk' F' N' ka' hv'
       rw [hgk] at hv'
       subst hv')
  k_steps
  · rename News _ _ _ _ => N₃
    rename ((kd == Str.ofString "attribute") = true) => e1
    refine ⟨_, _, _, rfl, by assumption, ?_, led_of N₃ (by walk_at "sub")⟩
    show Value.ref P.a = _
    rw [if_pos (beq_iff_eq.mp e1)]
  · rename News _ _ _ _ => N₃
    rename ((kd == Str.ofString "attribute") = false) => e1
    rename ((kd == Str.ofString "namespace") = true) => e2
    refine ⟨_, _, _, rfl, by assumption, ?_, led_of N₃ (by walk_at "sub")⟩
    show Value.ref P.n = _
    rw [if_neg (beq_eq_false_iff_ne.mp e1), if_pos (beq_iff_eq.mp e2)]
  · rename News _ _ _ _ => N₃
    rename ((kd == Str.ofString "attribute") = false) => e1
    rename ((kd == Str.ofString "namespace") = false) => e2
    refine ⟨_, _, _, rfl, by assumption, ?_, led_of N₃ (by walk_at "sub")⟩
    show Value.ref P.c = _
    rw [if_neg (beq_eq_false_iff_ne.mp e1), if_neg (beq_eq_false_iff_ne.mp e2)]
end
section
example : True := by
  w_top off
  k_with_none
  k_with "!c1" => first | assumption | exact And.right (by k_extra "!c2") | fail
  k_with "!c2" => first | assumption | exact And.right (by k_extra "!c3") | fail
  k_with "!c3" => first | assumption | exact And.right (by k_extra "!c4") | fail
  k_with "!c4" => first | assumption | exact And.right (by k_extra "!c5") | fail
  k_with "!c5" => first | assumption | exact And.right (by k_extra "!c6") | fail
  k_with "!c6" => first | assumption | exact And.right (by k_extra "!c7") | fail
  k_with "!c7" => first | assumption | exact And.right (by k_extra "!c8") | fail
  k_with "!c8" => assumption
  k_with "!lt9" => with_reducible first | exact And.left (by k_extra "!c1") | exact And.right (by k_extra "!c1") | fail
  k_with "!omega" => with_reducible first | exact lt_dp (by assumption) (by with_unfolding_all exact rfl) | exact lt_un (by assumption) (by with_unfolding_all exact rfl) | assumption | exact Ne.symm (by assumption) | exact Nat.ne_of_lt (by assumption) | exact Nat.ne_of_gt (by assumption) | exact le_big (by assumption) (by with_unfolding_all exact rfl) | exact le_big2 (by assumption) (by with_unfolding_all exact rfl) | exact lt_big (by assumption) (by with_unfolding_all exact rfl) | exact Nat.le_of_ble_eq_true (by with_unfolding_all exact rfl) | exact Nat.ne_of_gt (lt_s (by assumption)) | exact Nat.ne_of_gt (lt_s (lt_s (by assumption))) | exact Nat.ne_of_gt (lt_s (lt_s (lt_s (by assumption)))) | exact Nat.ne_of_lt (by k_extra "!lt9") | exact Nat.ne_of_gt (by k_extra "!lt9") | (refine Nat.lt_of_lt_of_le ?_ (Nat.le_refl _); k_extra "!lt9") | fail
  k_with "!k_all" => first | exact ne_of_allLt (by assumption) | exact ne_of_allLt (And.right (by assumption)) | exact ne_of_allLt (And.right (And.right (by assumption)))
  k_with "!sub" => first | exact fun _ h => h | (with_reducible assumption) | exact sub_app (by assumption) | exact sub_app (fun _ h => h) | exact (fun _ h => List.mem_append_right _ h) | (refine sub_cc ?_; k_extra "!sub") | (refine sub_tl ?_; k_extra "!sub")
  k_with "!U" => ((case B => assumption); (case F => k_asm); (case X => assumption); (case T => assumption); (case hf => exact rfl); (case hk => exact rfl); (case N => k_asm); (case hs => k_extra "!sub"); (case hdp => ((try dsimp only); omega)); (case hun => ((try dsimp only); omega)); k_whole)
  k_with "!k_handed" => with_reducible assumption
  k_with "!k_all" => first | exact ne_of_allNe (by assumption) | exact ne_of_allNe (And.right (by assumption)) | exact ne_of_allNe (And.right (And.right (by assumption)))
  k_with "!call ref" => k_extra "call ref"
  k_with "!k_all" => first | exact ne_of_lts2 (by assumption) | (with_reducible assumption)
  k_with "!k_mem" => assumption
  k_with "!callWith ref" => (k_here; k_dflt (first | (refine' callWith_K ?k1 ?k2 ?_; (case k1 => k_asm); (case k2 => k_is); k_whole) | (refine' callWith_K0 ?k1 ?k2 ?_; (case k1 => k_in); (case k2 => k_is); k_whole) | (refine' callWith_M0 ?k1 ?k2 ?_; (case k1 => k_meth); (case k2 => k_is); k_whole; try dsimp only [List.nil_append, List.cons_append]) | (refine' callWith_M ?k1 ?k2 ?k3 ?k4 ?_; (case k1 => k_asm); (case k2 => k_asm); (case k3 => k_mem); (case k4 => k_is); k_whole) | (refine' callWith_F ?k1 ?_; (case k1 => exact FnAt.of (by k_asm) (by k_mem)); k_whole)))
  k_with "!eval Name" => (k_here; kc_free; k_dflt (refine' nameX_F ?N ?c ?m ?d ?_ ?a ?b; (case a => rfl); (case b => rfl); (case N => k_asm); (case c => rfl); (case m => k_mem); (case d => k_asm); k_whole))
  k_with "!U5" => ((case B => assumption); (case F => k_asm); (case X => assumption); (case T => assumption); (case hf => exact rfl); (case hk => exact rfl); (case N => k_asm); (case hdp => ((try dsimp only); omega)); (case hun => ((try dsimp only); omega)); k_whole)
  trivial
theorem ints_kf : ∀ {vs : List Value} {ns : List Int}, IntsAre vs ns → kf_ints vs = true
  | _, _, .nil => rfl
  | _, _, .cons _ _ r => by unfold kf_ints; exact ints_kf r
theorem ints_at {k : Int} : ∀ {vs : List Value} {ns : List Int}, IntsAre vs ns → k ∈ ns → ∃ j q, kf_at k vs = some j ∧ ki_delL vs j = some q ∧ IntsAre q (ns.erase k)
  | _, _, .nil, h => nomatch h
  | _, _, .cons (vs := vs) (ns := ns) n t r, h => by
    by_cases e : n = k
    · subst e
      refine ⟨0, vs, ?_, rfl, ?_⟩
      · unfold kf_at; simp [isInt]
      · rw [List.erase_cons_head]; exact r
    · obtain ⟨j, q, h1, h2, h3⟩ := ints_at r (k := k) (by
        rcases List.mem_cons.mp h with h | h
        · exact (e h.symm).elim
        · exact h)
      refine ⟨j + 1, .int n t :: q, ?_, ?_, ?_⟩
      · unfold kf_at; rw [h1, show isInt k (.int n t) = false from by simp [isInt]; omega]; rfl
      · unfold ki_delL; rw [h2]
      · rw [List.erase_cons_tail (by simpa using e)]; exact .cons n t h3
theorem updF_to {d : Addr} {o : Obj} : ∀ {l : List (Addr × Obj)} {g : Obj → List (Addr × Obj)}, UpdF d o l g → ∀ o', Upd d o o' l (g o')
  | _, _, .head h, _ => .head h
  | _, _, .tail h r, o' => .tail h (updF_to r o')
section
variable {prog : Program} {w : World} {A : Around} {E : Value → Shared → Prop} {s : Shared} {h₀ : Heap} {L D : Addr} {m : Str → Option Value} {news : List (Addr × Obj)} {gg : Obj → List (Addr × Obj)} {vs : List Value} {ns : List Int} {n : Nat} {Q : Value → Shared → Prop} {k : Int} {t : Tok}
theorem remove_my (F : Fr h₀ L s.heap m) (N : News h₀ L s.heap news) (U : UpdF D (listOf vs.toArray n) news gg) (hi : IntsAre vs ns) (hk : k ∈ ns) (hz : vs.length < 1000)
    (h : ∀ h' ws n', Fr h₀ L h' m → News h₀ L h' (gg (listOf ws.toArray n')) → IntsAre ws (ns.erase k) → Q .none { s with heap := h' }) : wpAny (model prog w) A (call (.builtin "list.remove") [.ref D, .int k t]) Q E s := by
  obtain ⟨j, q, h1, h2, h3⟩ := ints_at hi hk
  exact kf_remove (its := vs.toArray) F N (ints_kf hi) h1 h2 (updF_to U _) (by show vs.length ≤ _; rw [sizeLine_eq]; omega) fun h' F' N' => h h' q _ F' N' h3
end
section
example : True := by
  k_with "!call builtin:list.remove" => (k_here; (with_reducible show wpAny _ _ (call (Value.builtin _) [Value.ref _, Value.int _ _]) _ _ _); k_dflt (refine' remove_my ?F ?N ?U ?i ?k ?z ?_; (case F => k_asm); (case N => k_asm); (case U => k_updF); (case i => assumption); (case k => assumption); (case z => omega); k_whole); intro zqh zqws zqn zqF zqN zqhw)
  trivial
abbrev rowEs (w : World) (t1 t2 t3 t4 t5 t6 t7 t8 t9 : Tok) (vk vn vu vl vv vp : Value) (c a n : Addr) : List DictEntry :=
  [ent w (Str.ofString "kind") t1 vk, ent w (Str.ofString "name") t2 vn, ent w (Str.ofString "uri") t3 vu, ent w (Str.ofString "local") t4 vl, ent w (Str.ofString "value") t5 vv, ent w (Str.ofString "parent") t6 vp, ent w (Str.ofString "children") t7 (.ref c), ent w (Str.ofString "attributes") t8 (.ref a), ent w (Str.ofString "namespaces") t9 (.ref n)]
theorem row_get {w : World} {t1 t2 t3 t4 t5 t6 t7 t8 t9 : Tok} {vk vn vu vl vv vp : Value} {c a n : Addr} : (getL (Str.ofString "parent") (rowEs w t1 t2 t3 t4 t5 t6 t7 t8 t9 vk vn vu vl vv vp c a n)).isSome = true := by rfl
theorem row_put {w : World} {t1 t2 t3 t4 t5 t6 t7 t8 t9 : Tok} {vk vn vu vl vv vp v key : Value} {hsh : Int} {c a n : Addr} {ep : Nat} :
    (putL (Str.ofString "parent") hsh key v (rowEs w t1 t2 t3 t4 t5 t6 t7 t8 t9 vk vn vu vl vv vp c a n), putN (Str.ofString "parent") (rowEs w t1 t2 t3 t4 t5 t6 t7 t8 t9 vk vn vu vl vv vp c a n) ep) = (rowEs w t1 t2 t3 t4 t5 t6 t7 t8 t9 vk vn vu vl vv v c a n, ep) := by rfl
example : True := by
  k_with "!setAttr ref" => (k_here; k_dflt (refine' set_dict (es' := rowEs _ _ _ _ _ _ _ _ _ _ _ _ _ _ _ .none _ _ _) ?k1 ?k2 ?k3 ?k4 ?k5 ?k6 ?k7 ?k8 ?k9 ?k10 ?k11 ?k12 ?k13 ?_; (case k1 => k_asm); (case k2 => k_asm); (case k3 => k_asm); (case k4 => k_inst); (case k5 => exact rfl); (case k6 => k_is); (case k7 => k_is); (case k8 => k_is); (case k9 => k_is); (case k10 => exact row_get); (case k11 => exact row_put); (case k12 => k_upd); (case k13 => exact Nat.le_of_ble_eq_true rfl); k_whole); intro zqh zqF zqN)
  trivial
theorem remove_walk {w : World} {τ : TreeC} {g j : Nat} {G P : RowC} {tj tk1 tg : Tok} {kd : Str} {D : Addr} {vs : List Value} {e : Nat} {ns : List Int} {h : Heap} (hnd : ((τ.led w).map (·.1)).Nodup) (hG : τ.rows[g]? = some G) (hP : τ.rows[j]? = some P) (hjg : j ≠ g)
    (hgp : G.vp = .int (j : Int) tj) (hgk : G.vk = .str kd tk1) (hlen : τ.rows.length < 500) (hD : (D, listOf vs.toArray e) ∈ P.led w) (hDe : D = if kd = Str.ofString "attribute" then P.a else if kd = Str.ofString "namespace" then P.n else P.c)
    (hi : IntsAre vs ns) (hg : ((g : Nat) : Int) ∈ ns) (hz : vs.length < 500) :
    Spec w (.ref 102) [.ref τ.aT, .int g tg] 12 (τ.led w) (fun v h' => ∃ ws e', IntsAre ws (ns.erase g) ∧ h'.get? D = some (listOf ws.toArray e') ∧ h'.get? G.d = some (({ G with vp := .none } : RowC).dict w) ∧ ∀ q ∈ τ.led w, q.1 ≠ D → q.1 ≠ G.d → h'.get? q.1 = some q.2) h := by
  refine enter (binds := [(Str.ofString "tree", .ref τ.aT), (Str.ofString "node", .int g tg)]) (by k_is) (by k_is) (fun s => BindsTo.of_eq rfl) (locs rfl) rfl rfl rfl (by decide) ?_
  intro dp un gd env outer A₀ base g' L' h₁ p loose mean mg mb gs ds tk os B X T F N lt hdp hun kp
  k_fold
  k_with_none
  k_with "!c1" => first | assumption | exact And.right (by k_extra "!c2") | fail
  k_with "!c2" => first | assumption | exact And.right (by k_extra "!c3") | fail
  k_with "!c3" => first | assumption | exact And.right (by k_extra "!c4") | fail
  k_with "!c4" => first | assumption | exact And.right (by k_extra "!c5") | fail
  k_with "!c5" => first | assumption | exact And.right (by k_extra "!c6") | fail
  k_with "!c6" => first | assumption | exact And.right (by k_extra "!c7") | fail
  k_with "!c7" => first | assumption | exact And.right (by k_extra "!c8") | fail
  k_with "!c8" => assumption
  k_with "!lt9" => with_reducible first | exact And.left (by k_extra "!c1") | exact And.right (by k_extra "!c1") | fail
  k_with "!omega" => with_reducible first | exact lt_dp (by assumption) (by with_unfolding_all exact rfl) | exact lt_un (by assumption) (by with_unfolding_all exact rfl) | assumption | exact Ne.symm (by assumption) | exact Nat.ne_of_lt (by assumption) | exact Nat.ne_of_gt (by assumption) | exact le_big (by assumption) (by with_unfolding_all exact rfl) | exact le_big2 (by assumption) (by with_unfolding_all exact rfl) | exact lt_big (by assumption) (by with_unfolding_all exact rfl) | exact Nat.le_of_ble_eq_true (by with_unfolding_all exact rfl) | exact Nat.ne_of_gt (lt_s (by assumption)) | exact Nat.ne_of_gt (lt_s (lt_s (by assumption))) | exact Nat.ne_of_gt (lt_s (lt_s (lt_s (by assumption)))) | exact Nat.ne_of_lt (by k_extra "!lt9") | exact Nat.ne_of_gt (by k_extra "!lt9") | (refine Nat.lt_of_lt_of_le ?_ (Nat.le_refl _); k_extra "!lt9") | fail
  k_with "!k_all" => first | exact ne_of_allLt (by assumption) | exact ne_of_allLt (And.right (by assumption)) | exact ne_of_allLt (And.right (And.right (by assumption)))
  k_with "!sub" => first | exact fun _ h => h | (with_reducible assumption) | exact sub_app (by assumption) | exact sub_app (fun _ h => h) | exact (fun _ h => List.mem_append_right _ h) | (refine sub_cc ?_; k_extra "!sub") | (refine sub_tl ?_; k_extra "!sub")
  k_with "!U" => ((case B => assumption); (case F => k_asm); (case X => assumption); (case T => assumption); (case hf => exact rfl); (case hk => exact rfl); (case N => k_asm); (case hs => k_extra "!sub"); (case hdp => ((try dsimp only); omega)); (case hun => ((try dsimp only); omega)); k_whole)
  k_with "!k_handed" => with_reducible assumption
  k_with "!k_all" => first | exact ne_of_allNe (by assumption) | exact ne_of_allNe (And.right (by assumption)) | exact ne_of_allNe (And.right (And.right (by assumption)))
  k_with "!call ref" => k_extra "call ref"
  k_with "!k_all" => first | exact ne_of_lts2 (by assumption) | (with_reducible assumption)
  k_with "!k_mem" => assumption
  k_with "!callWith ref" => (k_here; k_dflt (first | (refine' callWith_K ?k1 ?k2 ?_; (case k1 => k_asm); (case k2 => k_is); k_whole) | (refine' callWith_K0 ?k1 ?k2 ?_; (case k1 => k_in); (case k2 => k_is); k_whole) | (refine' callWith_M0 ?k1 ?k2 ?_; (case k1 => k_meth); (case k2 => k_is); k_whole; try dsimp only [List.nil_append, List.cons_append]) | (refine' callWith_M ?k1 ?k2 ?k3 ?k4 ?_; (case k1 => k_asm); (case k2 => k_asm); (case k3 => k_mem); (case k4 => k_is); k_whole) | (refine' callWith_F ?k1 ?_; (case k1 => exact FnAt.of (by k_asm) (by k_mem)); k_whole)))
  k_with "!eval Name" => (k_here; kc_free; k_dflt (refine' nameX_F ?N ?c ?m ?d ?_ ?a ?b; (case a => rfl); (case b => rfl); (case N => k_asm); (case c => rfl); (case m => k_mem); (case d => k_asm); k_whole))
  k_with "!U5" => ((case B => assumption); (case F => k_asm); (case X => assumption); (case T => assumption); (case hf => exact rfl); (case hk => exact rfl); (case N => k_asm); (case hdp => ((try dsimp only); omega)); (case hun => ((try dsimp only); omega)); k_whole)
  k_with "!call builtin:list.remove" => (k_here; (with_reducible show wpAny _ _ (call (Value.builtin _) [Value.ref _, Value.int _ _]) _ _ _); k_dflt (refine' remove_my ?F ?N ?U ?i ?k ?z ?_; (case F => k_asm); (case N => k_asm); (case U => k_updF); (case i => assumption); (case k => assumption); (case z => omega); k_whole); intro zqh zqws zqn zqF zqN zqhw)
  k_with "!setAttr ref" => (k_here; k_dflt (refine' set_dict (es' := rowEs _ _ _ _ _ _ _ _ _ _ _ _ _ _ _ .none _ _ _) ?k1 ?k2 ?k3 ?k4 ?k5 ?k6 ?k7 ?k8 ?k9 ?k10 ?k11 ?k12 ?k13 ?_; (case k1 => k_asm); (case k2 => k_asm); (case k3 => k_asm); (case k4 => k_inst); (case k5 => exact rfl); (case k6 => k_is); (case k7 => k_is); (case k8 => k_is); (case k9 => k_is); (case k10 => exact row_get); (case k11 => exact row_put); (case k12 => k_upd); (case k13 => exact Nat.le_of_ble_eq_true rfl); k_whole); intro zqh zqF zqN)
  have hap := TreeC.apart hnd
  have hf : ∀ {j : Nat} {P : RowC}, τ.rows[j]? = some P → ∀ q ∈ P.led w, q ∈ τ.rows.flatMap (RowC.led w) := fun hP q hq => List.mem_flatMap.mpr ⟨_, List.mem_of_getElem? hP, hq⟩
  have hGd : (G.d, G.dict w) ∈ G.led w := .tail _ (.head _)
  have hDG : @Ne Nat D G.d := rows_apart hap.nd hP hG hjg _ hD _ hGd
  obtain ⟨FL, hFL⟩ : ∃ FL, FL = (τ.led w).filter (fun q => decide (q.1 ≠ D) && decide (q.1 ≠ G.d)) := ⟨_, rfl⟩
  have hF0 : ∀ q ∈ FL, q.1 ≠ D := fun q hq => by rw [hFL] at hq; have := (List.mem_filter.mp hq).2; simp at this; exact this.1
  have hF1 : ∀ q ∈ FL, q.1 ≠ G.d := fun q hq => by rw [hFL] at hq; have := (List.mem_filter.mp hq).2; simp at this; exact this.2
  have hF2 : ∀ q ∈ τ.led w, q.1 ≠ D → q.1 ≠ G.d → q ∈ FL := fun q hq h1 h2 => by rw [hFL]; exact List.mem_filter.mpr ⟨hq, by simp [h1, h2]⟩
  have hsub : ∀ q ∈ (D, listOf vs.toArray e) :: (G.d, G.dict w) :: FL, q ∈ τ.led w := fun q hq => by
    rcases List.mem_cons.mp hq with rfl | hq
    · exact (hap.rest _ (hf hP _ hD)).1
    rcases List.mem_cons.mp hq with rfl | hq
    · exact (hap.rest _ (hf hG _ hGd)).1
    · rw [hFL] at hq; exact (List.mem_filter.mp hq).1
  have hback : ∀ q ∈ τ.led w, q ∈ (D, listOf vs.toArray e) :: (G.d, G.dict w) :: FL := fun q hq => by
    by_cases h1 : q.1 = D
    · have := (N q hq).1
      rw [h1, (N _ (hsub _ (.head _))).1] at this
      rw [show q = (D, listOf vs.toArray e) from Prod.ext h1 (Option.some.inj this).symm]
      exact .head _
    · by_cases h2 : q.1 = G.d
      · have := (N q hq).1
        rw [h2, (N _ (hsub _ (.tail _ (.head _)))).1] at this
        rw [show q = (G.d, G.dict w) from Prod.ext h2 (Option.some.inj this).symm]
        exact .tail _ (.head _)
      · exact .tail _ (.tail _ (hF2 q hq h1 h2))
  have htop : ∀ q ∈ τ.top w, q ∈ FL := fun q hq => hF2 q (TreeC.top_sub q hq) (fun e => (hap.rest _ (hf hP _ hD)).2 (List.mem_map.mpr ⟨q, hq, e⟩)) (fun e => (hap.rest _ (hf hG _ hGd)).2 (List.mem_map.mpr ⟨q, hq, e⟩))
  have hGr : (G.r, instObj 120 G.d) ∈ FL := hF2 _ ((hap.rest _ (hf hG _ (.head _))).1) (rows_apart hap.nd hG hP hjg.symm _ (.head _) _ hD) (TreeC.row_nes hnd hG).rd
  have hT1 := htop _ (.head _)
  have hT2 := htop _ (.tail _ (.head _))
  have hT3 := htop _ (.tail _ (.tail _ (.head _)))
  have N9 := nsub N hsub
  clear N
  simp only [RowC.dict] at N9 hback
  have hgl : g < τ.refs.length := (List.getElem?_eq_some_iff.mp (TreeC.ref hG)).1
  k_with "call ref" =>
    first
    | (refine' use_ro (parentT (FP := τ.led w) (fun _ h => h) hG (by omega) (by rw [hgp]; rfl)) ?B ?F ?X ?T ?hf ?hk ?N ?hs ?hdp ?hun ?_
       case hs => exact hback
       walk_at "U5"
       intro v' h' tk' F' N' ka' hv'
       rw [hgp] at hv'
       subst hv')
    | (refine' use_ro (above_spec (FP := τ.led w) (fun _ h => h) hG hP hgp hgk hlen) ?B ?F ?X ?T ?hf ?hk ?N ?hs ?hdp ?hun ?_
       case hs => exact hback
       walk_at "U5"
       intro v' h' tk' F' N' ka' hv'
       rw [← hDe] at hv'
       subst hv')
    | (refine' use_ro (row_spec (FP := FL) hT1 hT2 hT3 (TreeC.ref hG) (by simpa [TreeC.refs] using Nat.lt_of_lt_of_le hlen (by decide))) ?B ?F ?X ?T ?hf ?hk ?N ?hs ?hdp ?hun ?_
       walk_at "U"
       intro v' h' tk' F' N' ka' hv'
       subst hv')
  k_steps
  rename News _ _ _ _ => N₃
  rename (IntsAre _ (List.erase _ _)) => hw9
  exact ⟨_, _, _, rfl, by assumption, _, _, hw9, (N₃ _ (.head _)).1, (N₃ _ (.tail _ (.head _))).1, fun q hq h1 h2 => (N₃ _ (.tail _ (.tail _ (hF2 q hq h1 h2)))).1⟩
end
def Core.cut (C : Core) (g : Nat) : Core := { C with par := fun i => if i = g then Option.none else C.par i }
theorem Core.sub_nodup {C : Core} {p : Str → Bool} {i : Nat} : (C.sub p i).Nodup := List.Pairwise.filter _ List.nodup_range
theorem Core.sub_cut {C : Core} {p : Str → Bool} {g i : Nat} : (C.cut g).sub p i = (C.sub p i).erase g := by
  rw [Core.sub_nodup.erase_eq_filter]
  unfold Core.sub
  rw [List.filter_filter]
  refine List.filter_congr fun c _ => ?_
  simp only [Core.cut]
  by_cases e : c = g
  · subst e; simp
  · simp [e]
theorem Core.sub_mem {C : Core} {p : Str → Bool} {g i : Nat} : g ∈ C.sub p i ↔ g < C.n ∧ C.par g = some i ∧ p (C.kind g) = true := by
  simp [Core.sub]
theorem natInts_erase {g : Nat} : ∀ {l : List Nat}, natInts (l.erase g) = (natInts l).erase ((g : Nat) : Int)
  | [] => rfl
  | a :: r => by
    by_cases e : a = g
    · subst e; simp [natInts]
    · rw [List.erase_cons_tail (by simpa using e)]
      simp only [natInts, List.map_cons]
      rw [List.erase_cons_tail (by simp; omega)]
      congr 1
      exact natInts_erase (l := r)
theorem Core.Ok.cut {C : Core} (h : C.Ok) (g : Nat) : (C.cut g).Ok := by
  have hp : ∀ i j, (C.cut g).par i = some j → C.par i = some j := fun i j e => by
    simp only [Core.cut] at e
    split at e
    · cases e
    · exact e
  refine ⟨fun i j hi e => h.below i j hi (hp i j e), fun i j hi e => h.holds i j hi (hp i j e), fun i hi => ?_, fun i j hi e hc => h.elem i j hi (hp i j e) hc⟩
  rcases h.kinds i hi with q | q | q | q
  · exact .inl q
  · exact .inr (.inl q)
  · exact .inr (.inr (.inl q))
  · refine .inr (.inr (.inr ⟨q.1, ?_⟩))
    simp only [Core.cut]
    split
    · rfl
    · exact q.2
abbrev TreeC.turn (τ : TreeC) (j g : Nat) (P' G' : RowC) : TreeC := { τ with rows := (τ.rows.set j P').set g G' }
section
variable {w : World} {τ : TreeC} {g j : Nat} {G P P' : RowC} {D : Addr} {o o' : Obj}
theorem turn_fin {h' : Heap} (hnd : ((τ.led w).map (·.1)).Nodup) (hG : τ.rows[g]? = some G) (hP : τ.rows[j]? = some P) (hjg : j ≠ g) (hD : (D, o) ∈ P.led w) (hP' : ∀ q ∈ P'.led w, q = (D, o') ∨ (q ∈ P.led w ∧ q.1 ≠ D)) (hr : P'.r = P.r) (hk : (P'.led w).map (·.1) = (P.led w).map (·.1))
    (h1 : h'.get? D = some o') (h2 : h'.get? G.d = some (({ G with vp := .none } : RowC).dict w)) (h3 : ∀ q ∈ τ.led w, q.1 ≠ D → q.1 ≠ G.d → h'.get? q.1 = some q.2) :
    (((τ.turn j g P' { G with vp := .none }).led w).map (·.1)).Nodup ∧ ∀ q ∈ (τ.turn j g P' { G with vp := .none }).led w, h'.get? q.1 = some q.2 ∧ q.1 ∈ (τ.led w).map (·.1) := by
  have hG2 : (τ.rows.set j P')[g]? = some G := by rw [List.getElem?_set, if_neg hjg]; exact hG
  have hap := TreeC.apart hnd
  have hns := TreeC.row_nes hnd hG
  have hkeys : ((τ.turn j g P' { G with vp := .none }).led w).map (·.1) = (τ.led w).map (·.1) := by
    simp only [TreeC.led, TreeC.turn, List.map_cons]
    rw [flat_set_keys (P' := { G with vp := .none }) hG2 rfl, flat_set_keys hP hk]
  have hrefs : (τ.turn j g P' { G with vp := .none }).refs = τ.refs := by
    simp only [TreeC.refs, TreeC.turn]
    rw [refs_set (P' := { G with vp := .none }) hG2 rfl, refs_set hP hr]
  have hf : ∀ {j : Nat} {P : RowC}, τ.rows[j]? = some P → ∀ q ∈ P.led w, q ∈ τ.rows.flatMap (RowC.led w) := fun hP q hq => List.mem_flatMap.mpr ⟨_, List.mem_of_getElem? hP, hq⟩
  have hGd : (G.d, G.dict w) ∈ G.led w := .tail _ (.head _)
  have htop : ∀ q ∈ τ.top w, h'.get? q.1 = some q.2 := fun q hq => h3 q (TreeC.top_sub q hq) (fun e => (hap.rest _ (hf hP _ hD)).2 (List.mem_map.mpr ⟨q, hq, e⟩)) (fun e => (hap.rest _ (hf hG _ hGd)).2 (List.mem_map.mpr ⟨q, hq, e⟩))
  refine ⟨by rw [hkeys]; exact hnd, fun q hq => ⟨?_, by rw [← hkeys]; exact List.mem_map_of_mem hq⟩⟩
  unfold TreeC.led at hq
  rw [hrefs] at hq
  simp only [List.mem_cons] at hq
  rcases hq with rfl | rfl | rfl | hq
  · exact htop _ (.head _)
  · exact htop _ (.tail _ (.head _))
  · exact htop _ (.tail _ (.tail _ (.head _)))
  · rcases flat_set_mem (by rw [flat_set_keys hP hk]; exact hap.nd) hG2 hGd (o' := ({ G with vp := .none } : RowC).dict w) (fun q hq => by
      simp only [RowC.led, List.mem_cons, List.not_mem_nil, or_false] at hq ⊢
      rcases hq with rfl | rfl | rfl | rfl | rfl
      · exact .inr ⟨.inl rfl, hns.rd⟩
      · exact .inl rfl
      · exact .inr ⟨.inr (.inr (.inl rfl)), hns.dc.symm⟩
      · exact .inr ⟨.inr (.inr (.inr (.inl rfl))), hns.da.symm⟩
      · exact .inr ⟨.inr (.inr (.inr (.inr rfl))), hns.dn.symm⟩) q hq with h | ⟨h, hd⟩
    · rw [h]; exact h2
    · rcases flat_set_mem hap.nd hP hD hP' q h with h | ⟨h, hd2⟩
      · rw [h]; exact h1
      · exact h3 q (hap.rest _ h).1 hd2 hd
variable {C : Core} {kn pn : Nat → Str} {T : Nat}
theorem Store.cut (H : Store w C kn pn T τ) (hg : g < C.n) (hp : C.par g = some j) (hG : τ.rows[g]? = some G) (hP : τ.rows[j]? = some P) (rG : RowOk C kn pn T g G)
    (hP' : RowOk (C.cut g) kn pn T j P') (nd : (((τ.turn j g P' { G with vp := .none }).led w).map (·.1)).Nodup) : Store w (C.cut g) kn pn T (τ.turn j g P' { G with vp := .none }) where
  ok := H.ok.cut g
  len := by simp only [List.length_set]; exact H.len
  small := H.small
  row := fun i hi => by
    have hjg : j < g := H.ok.below g j hg hp
    have hi' : i < C.n := hi
    have same : ∀ p i, i ≠ j → (C.cut g).sub p i = C.sub p i := fun p i hij => by
      rw [Core.sub_cut, List.erase_of_not_mem]
      intro hm
      have := (Core.sub_mem.mp hm).2.1
      rw [hp] at this
      exact hij (Option.some.inj this).symm
    by_cases e1 : i = g
    · subst e1
      refine ⟨_, by rw [List.getElem?_set, if_pos rfl, if_pos (by rw [List.length_set, H.len]; exact hi')], ?_⟩
      refine ⟨rG.k, ?_, ?_, ?_, ?_, rG.nm, rG.uri, rG.loc⟩
      · rw [show (C.cut i).par i = Option.none from if_pos rfl]; rfl
      · rw [same _ _ (by omega)]; exact rG.cs
      · rw [same _ _ (by omega)]; exact rG.as
      · rw [same _ _ (by omega)]; exact rG.ns
    · by_cases e2 : i = j
      · subst e2
        exact ⟨P', by rw [List.getElem?_set, if_neg (fun e => e1 e.symm), List.getElem?_set, if_pos rfl, if_pos (by rw [H.len]; exact hi')], hP'⟩
      · obtain ⟨R, h1, h2⟩ := H.row i hi'
        refine ⟨R, by rw [List.getElem?_set, if_neg (fun e => e1 e.symm), List.getElem?_set, if_neg (fun e => e2 e.symm)]; exact h1, ?_⟩
        refine ⟨h2.k, ?_, ?_, ?_, ?_, h2.nm, h2.uri, h2.loc⟩
        · rw [show (C.cut g).par i = C.par i from if_neg e1]; exact h2.p
        · rw [same _ _ e2]; exact h2.cs
        · rw [same _ _ e2]; exact h2.as
        · rw [same _ _ e2]; exact h2.ns
  nd := nd
theorem remove_spec (H : Store w C kn pn T τ) (hg : g < C.n) (hp : C.par g = some j) {tg : Tok} {h : Heap} :
    Spec w (.ref 102) [.ref τ.aT, .int g tg] 12 (τ.led w) (fun v h' => ∃ x : TreeC, (x.aT = τ.aT ∧ Store w (C.cut g) kn pn T x) ∧ ∀ q ∈ x.led w, h'.get? q.1 = some q.2 ∧ (q.1 ∈ (τ.led w).map (·.1) ∨ h.get? q.1 = none)) h := by
  have hjg : j < g := H.ok.below g j hg hp
  obtain ⟨G, hG, rG⟩ := H.row g hg
  obtain ⟨P, hP, rP⟩ := H.row j (Nat.lt_trans hjg hg)
  obtain ⟨tj, hgp⟩ : ∃ t, G.vp = .int (j : Int) t := by have := rG.p; rw [hp] at this; exact this
  obtain ⟨tk1, hgk⟩ := rG.k
  have hns := TreeC.row_nes H.nd hP
  have hlen : τ.rows.length < 500 := by rw [H.len]; exact Nat.lt_trans H.small (by decide)
  have short : ∀ {vs : List Value} {p : Str → Bool}, IntsAre vs (natInts (C.sub p j)) → vs.length < 500 := fun hi => by
    rw [hi.length]; simp only [natInts, List.length_map]; exact Nat.lt_of_le_of_lt Core.sub_len (Nat.lt_trans H.small (by decide))
  have hmem : ∀ {p : Str → Bool}, p (C.kind g) = true → ((g : Nat) : Int) ∈ natInts (C.sub p j) := fun hpk => List.mem_map_of_mem (Core.sub_mem.mpr ⟨hg, hp, hpk⟩)
  have hno : ∀ {p : Str → Bool}, p (C.kind g) = false → (C.cut g).sub p j = C.sub p j := fun {p} hpk => by
    rw [Core.sub_cut, List.erase_of_not_mem]
    intro hm
    rw [(Core.sub_mem.mp hm).2.2] at hpk; cases hpk
  have hkp : IsPar P.vp ((C.cut g).par j) := by rw [show (C.cut g).par j = C.par j from if_neg (by omega)]; exact rP.p
  rcases H.ok.kinds g hg with q | q | q | q
  · obtain ⟨hA', hN'⟩ := isCh_cases q
    have hnot := isCh_not q
    refine Spec.mono (remove_walk (D := P.c) (vs := P.cs) (e := P.ec) H.nd hG hP (Nat.ne_of_lt hjg) hgp hgk hlen (.tail _ (.tail _ (.head _))) (by rw [if_neg fun e => hnot (.inl e), if_neg fun e => hnot (.inr e)]) rP.cs (hmem q) (short rP.cs)) fun v h' ⟨ws, e', hw, h1, h2, h3⟩ => ?_
    obtain ⟨nd, hm⟩ := turn_fin (P' := { P with cs := ws, ec := e' }) H.nd hG hP (Nat.ne_of_lt hjg) (List.Mem.tail _ (List.Mem.tail _ (List.Mem.head _))) (fun q hq => by
      simp only [RowC.led, List.mem_cons, List.not_mem_nil, or_false] at hq ⊢
      rcases hq with rfl | rfl | rfl | rfl | rfl
      · exact .inr ⟨.inl rfl, hns.rc⟩
      · exact .inr ⟨.inr (.inl rfl), hns.dc⟩
      · exact .inl rfl
      · exact .inr ⟨.inr (.inr (.inr (.inl rfl))), hns.ca.symm⟩
      · exact .inr ⟨.inr (.inr (.inr (.inr rfl))), hns.cn.symm⟩) rfl rfl h1 h2 h3
    have S9 := H.cut (P' := { P with cs := ws, ec := e' }) hg hp hG hP rG ⟨rP.k, hkp, by rw [Core.sub_cut, natInts_erase]; exact hw, by rw [hno hA']; exact rP.as, by rw [hno hN']; exact rP.ns, rP.nm, rP.uri, rP.loc⟩ nd
    exact ⟨τ.turn j g { P with cs := ws, ec := e' } { G with vp := .none }, ⟨rfl, S9⟩, fun q hq => ⟨(hm q hq).1, .inl (hm q hq).2⟩⟩
  · have hkk : C.kind g = Str.ofString "attribute" := beq_iff_eq.mp q
    have hC' : isCh (C.kind g) = false := by rw [hkk]; decide
    have hN' : isNs (C.kind g) = false := by rw [hkk]; decide
    refine Spec.mono (remove_walk (D := P.a) (vs := P.as) (e := P.ea) H.nd hG hP (Nat.ne_of_lt hjg) hgp hgk hlen (.tail _ (.tail _ (.tail _ (.head _)))) (by rw [if_pos hkk]) rP.as (hmem q) (short rP.as)) fun v h' ⟨ws, e', hw, h1, h2, h3⟩ => ?_
    obtain ⟨nd, hm⟩ := turn_fin (P' := { P with as := ws, ea := e' }) H.nd hG hP (Nat.ne_of_lt hjg) (List.Mem.tail _ (List.Mem.tail _ (List.Mem.tail _ (List.Mem.head _)))) (fun q hq => by
      simp only [RowC.led, List.mem_cons, List.not_mem_nil, or_false] at hq ⊢
      rcases hq with rfl | rfl | rfl | rfl | rfl
      · exact .inr ⟨.inl rfl, hns.ra⟩
      · exact .inr ⟨.inr (.inl rfl), hns.da⟩
      · exact .inr ⟨.inr (.inr (.inl rfl)), hns.ca⟩
      · exact .inl rfl
      · exact .inr ⟨.inr (.inr (.inr (.inr rfl))), hns.an.symm⟩) rfl rfl h1 h2 h3
    have S9 := H.cut (P' := { P with as := ws, ea := e' }) hg hp hG hP rG ⟨rP.k, hkp, by rw [hno hC']; exact rP.cs, by rw [Core.sub_cut, natInts_erase]; exact hw, by rw [hno hN']; exact rP.ns, rP.nm, rP.uri, rP.loc⟩ nd
    exact ⟨τ.turn j g { P with as := ws, ea := e' } { G with vp := .none }, ⟨rfl, S9⟩, fun q hq => ⟨(hm q hq).1, .inl (hm q hq).2⟩⟩
  · have hkk : C.kind g = Str.ofString "namespace" := beq_iff_eq.mp q
    have hC' : isCh (C.kind g) = false := by rw [hkk]; decide
    have hA' : isAt (C.kind g) = false := by rw [hkk]; decide
    refine Spec.mono (remove_walk (D := P.n) (vs := P.ns) (e := P.en) H.nd hG hP (Nat.ne_of_lt hjg) hgp hgk hlen (.tail _ (.tail _ (.tail _ (.tail _ (.head _))))) (by rw [if_neg (by rw [hkk]; decide), if_pos hkk]) rP.ns (hmem q) (short rP.ns)) fun v h' ⟨ws, e', hw, h1, h2, h3⟩ => ?_
    obtain ⟨nd, hm⟩ := turn_fin (P' := { P with ns := ws, en := e' }) H.nd hG hP (Nat.ne_of_lt hjg) (List.Mem.tail _ (List.Mem.tail _ (List.Mem.tail _ (List.Mem.tail _ (List.Mem.head _))))) (fun q hq => by
      simp only [RowC.led, List.mem_cons, List.not_mem_nil, or_false] at hq ⊢
      rcases hq with rfl | rfl | rfl | rfl | rfl
      · exact .inr ⟨.inl rfl, hns.rn⟩
      · exact .inr ⟨.inr (.inl rfl), hns.dn⟩
      · exact .inr ⟨.inr (.inr (.inl rfl)), hns.cn⟩
      · exact .inr ⟨.inr (.inr (.inr (.inl rfl))), hns.an⟩
      · exact .inl rfl) rfl rfl h1 h2 h3
    have S9 := H.cut (P' := { P with ns := ws, en := e' }) hg hp hG hP rG ⟨rP.k, hkp, by rw [hno hC']; exact rP.cs, by rw [hno hA']; exact rP.as, by rw [Core.sub_cut, natInts_erase]; exact hw, rP.nm, rP.uri, rP.loc⟩ nd
    exact ⟨τ.turn j g { P with ns := ws, en := e' } { G with vp := .none }, ⟨rfl, S9⟩, fun q hq => ⟨(hm q hq).1, .inl (hm q hq).2⟩⟩
  · rw [q.2] at hp; cases hp
end
end
section
example : True := by
  w_top off
  k_with_none
  k_with "!c1" => first | assumption | exact And.right (by k_extra "!c2") | fail
  k_with "!c2" => first | assumption | exact And.right (by k_extra "!c3") | fail
  k_with "!c3" => first | assumption | exact And.right (by k_extra "!c4") | fail
  k_with "!c4" => first | assumption | exact And.right (by k_extra "!c5") | fail
  k_with "!c5" => first | assumption | exact And.right (by k_extra "!c6") | fail
  k_with "!c6" => first | assumption | exact And.right (by k_extra "!c7") | fail
  k_with "!c7" => first | assumption | exact And.right (by k_extra "!c8") | fail
  k_with "!c8" => assumption
  k_with "!lt9" => with_reducible first | exact And.left (by k_extra "!c1") | exact And.right (by k_extra "!c1") | fail
  k_with "!omega" => with_reducible first | exact lt_dp (by assumption) (by with_unfolding_all exact rfl) | exact lt_un (by assumption) (by with_unfolding_all exact rfl) | assumption | exact Ne.symm (by assumption) | exact Nat.ne_of_lt (by assumption) | exact Nat.ne_of_gt (by assumption) | exact le_big (by assumption) (by with_unfolding_all exact rfl) | exact le_big2 (by assumption) (by with_unfolding_all exact rfl) | exact lt_big (by assumption) (by with_unfolding_all exact rfl) | exact Nat.le_of_ble_eq_true (by with_unfolding_all exact rfl) | exact Nat.ne_of_gt (lt_s (by assumption)) | exact Nat.ne_of_gt (lt_s (lt_s (by assumption))) | exact Nat.ne_of_gt (lt_s (lt_s (lt_s (by assumption)))) | exact Nat.ne_of_lt (by k_extra "!lt9") | exact Nat.ne_of_gt (by k_extra "!lt9") | (refine Nat.lt_of_lt_of_le ?_ (Nat.le_refl _); k_extra "!lt9") | fail
  k_with "!call builtin:len" => (k_here; (with_reducible show wpAny _ _ (call (Value.builtin "len") [Value.ref _]) _ _ _); k_dflt (refine' L_len ?N ?m ?z ?_; (case N => k_asm); (case m => k_mem); (case z => omega); k_whole))
  k_with "!item" => first | (k_here; (with_reducible show wpAny _ _ (subscriptTail _ _ (Value.ref _) (Value.int _ _)) _ _ _); k_dflt (refine' kim_list ?N ?m ?c ?d ?z ?f ?x ?_; (case N => k_asm); (case m => k_mem); (case c => rfl); (case d => rfl); (case z => omega); (case f => omega); (case x => (try simp only [Int.toNat_natCast]); first | assumption | rfl | exact List.getElem?_eq_getElem (by omega)); k_whole)) | (k_here; (with_reducible show wpAny _ _ (subscriptTail _ _ (Value.ref _) (Value.int _ _)) _ _ _); k_dflt (refine' kda_item (knd := PySem.intKind _ _) ?N ?m ?d (intKind_is _ _ _ _) ?v ?_; (case N => k_asm); (case d => assumption); (case m => k_mem); (case v => assumption); k_whole))
  k_with "!subscriptTail" => k_extra "!item"
  k_with "!subscriptTail Name Constant ref int" => k_extra "!item"
  k_with "!subscriptTail Name Name ref int" => k_extra "!item"
  k_with "!k_all" => first | exact ne_of_allLt (by assumption) | exact ne_of_allLt (And.right (by assumption)) | exact ne_of_allLt (And.right (And.right (by assumption)))
  k_with "!sub" => first | exact fun _ h => h | (with_reducible assumption) | exact sub_app (by assumption) | exact sub_app (fun _ h => h) | exact (fun _ h => List.mem_append_right _ h) | (refine sub_cc ?_; k_extra "!sub") | (refine sub_tl ?_; k_extra "!sub")
  k_with "!U" => ((case B => assumption); (case F => k_asm); (case X => assumption); (case T => assumption); (case hf => exact rfl); (case hk => exact rfl); (case N => k_asm); (case hs => k_extra "!sub"); (case hdp => ((try dsimp only); omega)); (case hun => ((try dsimp only); omega)); k_whole)
  k_with "!k_handed" => with_reducible assumption
  k_with "!call type:list" => (k_here; (with_reducible show wpAny _ _ (call (Value.type "list") [Value.ref _]) _ _ _); k_dflt (refine' L_copy ?F ?N ?m ?z ?_; (case F => k_asm); (case N => k_asm); (case m => k_mem); (case z => omega); k_whole); intro zqD zqc zqh zqF zqN zql1; (try simp only [AllLt, and_true] at zql1))
  k_with "!k_all" => first | exact ne_of_allNe (by assumption) | exact ne_of_allNe (And.right (by assumption)) | exact ne_of_allNe (And.right (And.right (by assumption)))
  k_with "!subscriptTail Name Call ref int" => k_extra "!item"
  k_with "!exec While Compare cons nil" => k_extra "exec While Compare cons nil"
  k_with "!call ref" => k_extra "call ref"
  k_with "!k_all" => first | exact ne_of_lts2 (by assumption) | (with_reducible assumption)
  k_with "!k_mem" => assumption
  k_with "!callWith ref" => (k_here; k_dflt (first | (refine' callWith_K ?k1 ?k2 ?_; (case k1 => k_asm); (case k2 => k_is); k_whole) | (refine' callWith_K0 ?k1 ?k2 ?_; (case k1 => k_in); (case k2 => k_is); k_whole) | (refine' callWith_M0 ?k1 ?k2 ?_; (case k1 => k_meth); (case k2 => k_is); k_whole; try dsimp only [List.nil_append, List.cons_append]) | (refine' callWith_M ?k1 ?k2 ?k3 ?k4 ?_; (case k1 => k_asm); (case k2 => k_asm); (case k3 => k_mem); (case k4 => k_is); k_whole) | (refine' callWith_F ?k1 ?_; (case k1 => exact FnAt.of (by k_asm) (by k_mem)); k_whole)))
  k_with "!exec For Name Call cons nil" => k_extra "exec For"
  k_with "!exec For Name Name cons nil" => k_extra "exec For"
  k_with "!exec For Name Attribute cons nil" => k_extra "exec For"
  k_with "!pyIter ref" => k_extra "pyIter ref"
  k_with "!revslice" => (k_here; (with_reducible show wpAny _ _ (subscriptTail _ (PySem.Expr.Slice none none (some _) _) (Value.ref _) (Value.ref _)) _ _ _); k_dflt (refine' krv_ints ?F ?N ?l ?k ?i ?_ ?s ?t ?z; (case F => k_asm); (case N => k_asm); (case l => exact L_isList (by k_asm) (by k_mem)); (case k => exact IsPart.int _ _); (case i => assumption); (case s => with_unfolding_all rfl); (case t => (intro _; with_unfolding_all rfl)); (case z => (rw [List.size_toArray, sizeLine_eq]; omega))); intro zqD zqws zqh zqF zqN zql1 zqhI zqhC; (have zqhW := IntsAre.length zqhI); (replace zql1 := allLt_of zql1); (try simp only [AllLt, and_true] at zql1))
  k_with "!subscriptTail Name Slice ref ref" => k_extra "!revslice"
  k_with "!subscriptTail Subscript Slice ref ref" => k_extra "!revslice"
  k_with "!subscriptTail Subscript Constant ref int" => k_extra "!item"
  k_with "!compareOp In int ref" => (k_here; k_dflt (refine' in_list_ints ?hl ?hi ?_; (case hl => exact L_isList (by k_asm) (by k_mem)); (case hi => assumption); k_whole))
  k_with "!exec Assign cons ListComp" => (k_here; (rename Fr _ _ _ _ => zqlF9); k_dflt (refine comp_assign zqlF9 (by rfl) (by with_unfolding_all rfl) (by with_unfolding_all rfl) (by decide) (by rfl) (by decide) (by rfl) (by rfl) (by rfl) ?_))
  k_with "!eval ListComp" => (k_here; (rename Fr _ _ _ _ => zqlF9); k_dflt (refine comp_expr zqlF9 (by with_unfolding_all rfl) (by decide) (by rfl) (by decide) (by rfl) ?_))
  k_with "!eval Name" => (k_here; kc_free; k_dflt (refine' nameX_F ?N ?c ?m ?d ?_ ?a ?b; (case a => rfl); (case b => rfl); (case N => k_asm); (case c => rfl); (case m => k_mem); (case d => k_asm); k_whole))
  k_with "!U3" => ((case N => k_asm); (case hs => exact fun _ h => h); (case hsub => k_extra "!sub"); (case B => assumption); (case F => k_asm); (case X => assumption); (case T => assumption); (case hf => exact rfl); (case hk => exact rfl); (case hdp => ((try dsimp only); omega)); (case hun => ((try dsimp only); omega)))
  k_with "!lamB1" => ((case m1 => k_mem); (case m2 => k_mem); (case m3 => assumption); (case m4 => assumption); (case m5 => k_mem); (case m6 => assumption); (case m7 => k_mem))
  k_with "!lamS1" => ((case n1 => k_mem); (case n2 => k_mem); (case n3 => assumption); (case n4 => assumption); (case n5 => k_mem); (case n6 => assumption); (case n7 => k_mem))
  k_with "!exec Return some" => k_extra "exec Return some"
  k_with "!call builtin:len" => (k_here; (with_reducible show wpAny _ _ (call (Value.builtin "len") [Value.ref _]) _ _ _); k_dflt (refine' L_len ?N ?m ?z ?_; (case N => k_asm); (case m => k_mem); (case z => ((simp only [List.length_append, List.length_cons, List.length_nil]); omega)); k_whole))
  k_with "!U5" => ((case B => assumption); (case F => k_asm); (case X => assumption); (case T => assumption); (case hf => exact rfl); (case hk => exact rfl); (case N => k_asm); (case hdp => ((try dsimp only); omega)); (case hun => ((try dsimp only); omega)); k_whole)
  k_with "!eval Dict" => (k_here; k_dflt (refine' kdn_eval (knd := PySem.intKind _ _) ?F ?N ?b ?a ?l ?e ?n ?_; (case F => k_asm); (case N => k_asm); (case b => exact Top.nolimit (by k_asm)); (case a => rfl); (case l => rfl); (case e => exact List.cons_ne_nil _ _); (case n => exact Nat.le_of_ble_eq_true rfl)); intro zqd zqh zqo zqF zqN zql1 zqlo zqhd; (try k_lt zql1))
  k_with "!call type:range" => ((with_reducible show wpAny _ _ (call _ [_]) _ _ _); (rename Fr _ _ _ _ => zqF); (rename News _ _ _ _ => zqN); (with_unfolding_all refine range1_rows zqF zqN ?_); intro zqh zqtk zqt1 zqu1 zqv1 zqhR zqF zqN zqka)
  trivial
section
variable {prog : Program} {w : World} {A : Around} {E : Value → Shared → Prop} {s : Shared} {h₀ : Heap} {L a b : Addr} {m : Str → Option Value} {news : List (Addr × Obj)} {vs ws : List Value} {n n' : Nat} {Q : Value → Shared → Prop}
theorem add_my (F : Fr h₀ L s.heap m) (N : News h₀ L s.heap news) (ha : (a, listOf vs.toArray n) ∈ news) (hb : (b, listOf ws.toArray n') ∈ news) (hz : vs.length + ws.length < 1000)
    (h : ∀ D h', Fr h₀ L h' m → News h₀ L h' ((D, listOf (vs ++ ws).toArray 0) :: news) → AllLt D news → Q (.ref D) { s with heap := h' }) : wpAny (model prog w) A (binaryOp .Add (.ref a) (.ref b)) Q E s :=
  add_lists F N ⟨_, (N _ ha).1, rfl, n, rfl⟩ ⟨_, (N _ hb).1, rfl, n', rfl⟩ (fun h' F' N' => h _ h' F' N' (allLt_of fun p hp => Heap.lt_size (N p hp).1)) (by rw [sizeLine_eq]; omega)
end
/-- a draw from a list, used by a caller's walk -/
theorem use_one {w : World} {src l : Addr} {x y : Int} {tx ty : Tok} {n nl : Nat} {vs : List Value} {news : List (Addr × Obj)} {gg : Obj → List (Addr × Obj)} {dp un : Nat} {gd : Option (List Code)} {env : Env} {outer : List Env} {A₀ : Around} {base h₀ : Heap} {L : Addr} {m : Str → Option Value}
    {p : Program} {loose : List Str} {mean : ExcName → Option Value} {mg mb : Str → Option Value} {s : Shared} {Q E : Value → Shared → Prop}
    (hz : 0 < vs.length) (hz2 : vs.length < 100) (hy : 0 ≤ y) (hy2 : y < 2147483648) (hne : @Ne Nat src l) (hl : (l, listOf vs.toArray nl) ∈ news) (B : Below A₀ base outer h₀) (F : Fr h₀ L s.heap m) (X : (hd.heap_1 w.params).In h₀) (T : Top p loose mean mg mb h₀) (hf : env.frame = some L) (hk : env.scope.kind = .function)
    (N : News h₀ L s.heap news) (U : UpdF src (listOf #[.int x tx, .int y ty] n) news gg) (hdp : dp + 5 < 900) (hun : un + 16 * 5 < 9000)
    (k : ∀ v x' tx' y' ty' n' h' tk', Fr h₀ L h' m → News h₀ L h' (gg (listOf #[.int x' tx', .int y' ty'] n')) → 0 ≤ y' → y' < 2147483648 → v ∈ vs → Q v { s with heap := h', toks := tk' }) :
    wpAny (model Prg w) (AA dp un gd env outer) (call (.ref 334) [.ref src, .ref l]) Q E s := by
  obtain ⟨h, gs, ds, tk, os⟩ := s
  obtain ⟨own, rest, rfl, hg, a, b⟩ := U.split
  have hm := N (src, _) (List.mem_append_right _ (.head _))
  have hl2 := N _ hl
  refine one_spec (x := x) (y := y) (tx := tx) (ty := ty) (n := n) (nl := nl) hz hz2 hy hy2 hne dp un gd env outer A₀ base h₀ L m p loose mean mg mb gs ds tk os Q E B F X T hf hk (fun q hq => ?_) hdp hun fun v h' tk' F' kp P => ?_
  · rcases List.mem_cons.mp hq with rfl | hq
    · exact hm
    · rw [List.mem_singleton.mp hq]; exact hl2
  · obtain ⟨⟨x', tx', y', ty', n', y0, y1, hs⟩, hl', hv⟩ := P
    have ho : ∀ q : Addr × Obj, q ∈ own ++ (src, listOf #[.int x tx, .int y ty] n) :: rest → q.1 ≠ src → h'.get? q.1 = some q.2 := fun q hq hn => by
      have h1 := (N q hq).1
      by_cases e : q.1 = l
      · rw [e] at h1 ⊢
        rw [hl2.1] at h1
        rw [hl', ← Option.some.inj h1]
      · refine kp _ _ ?_ h1
        simp only [List.map_cons, List.map_nil, List.mem_cons, List.not_mem_nil, or_false, not_or]
        exact ⟨hn, e⟩
    refine k v x' tx' y' ty' n' h' tk' F' ?_ y0 y1 hv
    rw [hg]
    intro q hq
    rcases List.mem_append.mp hq with hq | hq
    · exact ⟨ho q (List.mem_append_left _ hq) (a q hq), (N q (List.mem_append_left _ hq)).2⟩
    · rcases List.mem_cons.mp hq with rfl | hq
      · exact ⟨hs, hm.2⟩
      · exact ⟨ho q (List.mem_append_right _ (.tail _ hq)) (b q hq), (N q (List.mem_append_right _ (.tail _ hq))).2⟩
def EndS (P : Shared → Prop) (f : Flow) (s : Shared) : Prop := f = .next ∧ P s
theorem cutS {M : Model} {A : Around} {t : Sem Flow} {Q : Flow → Shared → Prop} {E : Value → Shared → Prop} {s : Shared} (P : Shared → Prop) (h : wpAny M A t (EndS P) E s) (k : ∀ s', P s' → Q .next s') : wpAny M A t Q E s :=
  wpAny_mono h (fun _ s' ⟨e, hP⟩ => e ▸ k s' hP) fun _ _ e => e
theorem par_of {vs : List Value} {l : List Nat} {v : Value} (hi : IntsAre vs (natInts l)) (h : v ∈ vs ++ [Value.none]) : ∃ o : Option Nat, IsPar v o ∧ ∀ j, o = some j → j ∈ l := by
  rcases List.mem_append.mp h with h | h
  · obtain ⟨k, hk⟩ := List.mem_iff_getElem?.mp h
    obtain ⟨c, t, hc, rfl⟩ := natInts_get hi hk
    exact ⟨some c, ⟨t, rfl⟩, fun j e => by cases e; exact List.mem_of_getElem? hc⟩
  · rw [List.mem_singleton.mp h]
    exact ⟨none, rfl, fun j e => nomatch e⟩
theorem own_of {vs : List Value} {l : List Nat} {v : Value} (hi : IntsAre vs (natInts l)) (h : v ∈ vs) : ∃ j t, v = .int ((j : Nat) : Int) t ∧ j ∈ l := by
  obtain ⟨k, hk⟩ := List.mem_iff_getElem?.mp h
  obtain ⟨c, t, hc, rfl⟩ := natInts_get hi hk
  exact ⟨c, t, rfl, List.mem_of_getElem? hc⟩
theorem kvs_any : ∀ (l : List EntC) (i : Nat) (k : Int), ((i + l.length : Nat) : Int) ≤ k → (kvsFrom i l).any (fun kv => kv.1 = k) = false
  | [], _, _, _ => rfl
  | E :: r, i, k, h => by
    simp only [kvsFrom, List.any_cons, Bool.or_eq_false_iff, List.length_cons] at h ⊢
    exact ⟨by simp; omega, kvs_any r (i + 1) k (by omega)⟩
theorem kvs_stored {l : List EntC} {E : EntC} {n : Nat} (hn : l.length = n) : stored (kvsFrom 0 l) ((n : Nat) : Int) (.ref E.e) = kvsFrom 0 (l ++ [E]) := by
  subst hn
  unfold stored
  rw [kvs_any l 0 _ (by omega), kvsFrom_snoc]
  simp
abbrev srcL (x y : Int) (tx ty : Tok) (n : Nat) : Obj := listOf #[.int x tx, .int y ty] n
/-- behind «path = ..»: where the path lies -/
def PathQ (g : Heap) (L' : Addr) (base R TL : List (Addr × Obj)) (S : Shape) (o : Option Nat) (m : Str → Option Value) (s s' : Shared) : Prop :=
  ∃ h' tk' pa pv pe EX, s' = { s with heap := h', toks := tk' } ∧ Fr g L' h' (fun y => if y = Str.ofString "path" then some (.ref pa) else m y) ∧ News g L' h' (base ++ (R ++ EX)) ∧ ((pa, listOf pv.toArray pe) ∈ TL ∨ (pa, listOf pv.toArray pe) ∈ EX) ∧
    IntsAre pv (natInts (S.up o).reverse) ∧ (∀ q ∈ EX, ∀ p ∈ base ++ R, p.1 < q.1)
theorem cutPath {M : Model} {A : Around} {t : Sem Flow} {Q : Flow → Shared → Prop} {E : Value → Shared → Prop} {s : Shared} {g : Heap} {L' : Addr} {base R : List (Addr × Obj)} (TL : List (Addr × Obj)) {S : Shape} {o : Option Nat} {m : Str → Option Value}
    (_F : Fr g L' s.heap m) (_N : News g L' s.heap (base ++ R)) (h : wpAny M A t (EndS (PathQ g L' base R TL S o m s)) E s) (k : ∀ s', PathQ g L' base R TL S o m s s' → Q .next s') : wpAny M A t Q E s := cutS _ h k
/-- behind the seven ways -/
structure NodeOk (w : World) (src inr D aT : Addr) (REST : List (Addr × Obj)) (C : Core) (i : Nat) (us : List Value) (r : List Nat) (τ : TreeC) (kd : Str) (o : Option Nat) (pa : Addr) (pv : List Value) (pe : Nat) : Prop where
  aT : τ.aT = aT
  st : Store w (C.add kd o) kName pName (i + 1) τ
  hb : ∀ j, o = some j → j < C.n
  hpa : (pa, listOf pv.toArray pe) ∈ REST
  hpv : IntsAre pv (natInts (C.shape.up o).reverse)
  us : IntsAre us (natInts (0 :: r))
  r0 : r ≠ []
  r1 : r.length ≤ i + 2
  rk : ∀ j ∈ r, j < C.n + 1 ∧ (C.add kd o).kind j = Str.ofString "element"
  os : ∀ q ∈ τ.led w, q.1 ≠ src
  oi : ∀ q ∈ τ.led w, q.1 ≠ inr
  oD : ∀ q ∈ τ.led w, q.1 ≠ D
  ap : ∀ q ∈ REST, q.1 ∉ (τ.led w).map (·.1)
def NodeQ (w : World) (g : Heap) (L' src inr D aT : Addr) (S od : Obj) (REST : List (Addr × Obj)) (C : Core) (i : Nat) (s s' : Shared) : Prop :=
  ∃ h' tk' m' us c r τ kd o tk1 tn pa pv pe, s' = { s with heap := h', toks := tk' } ∧ Fr g L' h' m' ∧ News g L' h' ((src, S) :: (inr, listOf us.toArray c) :: (D, od) :: (τ.led w ++ REST)) ∧
    (m' (Str.ofString "source") = some (.ref src) ∧ m' (Str.ofString "tree") = some (.ref aT) ∧ m' (Str.ofString "rows") = some (.ref D) ∧ m' (Str.ofString "inner") = some (.ref inr) ∧ m' (Str.ofString "node") = some (.int (C.n : Int) tn) ∧ m' (Str.ofString "kind") = some (.str kd tk1) ∧ m' (Str.ofString "path") = some (.ref pa)) ∧
    NodeOk w src inr D aT REST C i us r τ kd o pa pv pe
theorem cutNode {M : Model} {A : Around} {t : Sem Flow} {Q : Flow → Shared → Prop} {E : Value → Shared → Prop} {s : Shared} {w : World} {g : Heap} {L' src inr D : Addr} {S I od : Obj} {τ : TreeC} {REST : List (Addr × Obj)} {C : Core} {i : Nat}
    (_N : News g L' s.heap (τ.led w ++ (src, S) :: (inr, I) :: (D, od) :: REST)) (h : wpAny M A t (EndS (NodeQ w g L' src inr D τ.aT S od REST C i s)) E s) (k : ∀ s', NodeQ w g L' src inr D τ.aT S od REST C i s s' → Q .next s') : wpAny M A t Q E s := cutS _ h k
theorem rearr {g h : Heap} {L : Addr} {l r : List (Addr × Obj)} {a b c : Addr × Obj} (N : News g L h (l ++ a :: b :: c :: r)) : News g L h (a :: b :: c :: (l ++ r)) := nsub N fun q hq => by
  simp only [List.mem_cons, List.mem_append] at hq ⊢
  rcases hq with h | h | h | h | h
  · exact .inr (.inl h)
  · exact .inr (.inr (.inl h))
  · exact .inr (.inr (.inr (.inl h)))
  · exact .inl h
  · exact .inr (.inr (.inr (.inr h)))
section
variable {w : World} {src inr D aT pa : Addr} {REST : List (Addr × Obj)} {C : Core} {i c pe : Nat} {us pv : List Value} {r : List Nat} {τ τ2 : TreeC} {ρ : RowsC} {kd : Str} {o : Option Nat} {y : Int} {S I od : Obj}
theorem nodeOk_same (ok : GrowOk w src i C τ ρ y inr us r) (hA : τ2.aT = aT) (H2 : Store w (C.add kd o) kName pName (i + 1) τ2) (hb : ∀ j, o = some j → j < C.n) (hpa : (pa, listOf pv.toArray pe) ∈ REST)
    (hpv : IntsAre pv (natInts (C.shape.up o).reverse)) (ap2 : ∀ q ∈ (src, S) :: (inr, I) :: (D, od) :: REST, q.1 ∉ (τ2.led w).map (·.1)) : NodeOk w src inr D aT REST C i us r τ2 kd o pa pv pe where
  aT := hA
  st := H2
  hb := hb
  hpa := hpa
  hpv := hpv
  us := ok.us
  r0 := ok.r0
  r1 := Nat.le_succ_of_le ok.r1
  rk := fun j hj => ⟨Nat.lt_succ_of_lt (ok.rk j hj).1, by rw [show (C.add kd o).kind j = C.kind j from if_neg (Nat.ne_of_lt (ok.rk j hj).1)]; exact (ok.rk j hj).2⟩
  os := fun q hq e => ap2 _ (.head _) (List.mem_map.mpr ⟨q, hq, e⟩)
  oi := fun q hq e => ap2 _ (.tail _ (.head _)) (List.mem_map.mpr ⟨q, hq, e⟩)
  oD := fun q hq e => ap2 _ (.tail _ (.tail _ (.head _))) (List.mem_map.mpr ⟨q, hq, e⟩)
  ap := fun q hq => ap2 q (.tail _ (.tail _ (.tail _ hq)))
theorem nodeOk_more {t : Tok} (ok : GrowOk w src i C τ ρ y inr us r) (hA : τ2.aT = aT) (H2 : Store w (C.add (Str.ofString "element") o) kName pName (i + 1) τ2) (hb : ∀ j, o = some j → j < C.n) (hpa : (pa, listOf pv.toArray pe) ∈ REST)
    (hpv : IntsAre pv (natInts (C.shape.up o).reverse)) (ap2 : ∀ q ∈ (src, S) :: (inr, I) :: (D, od) :: REST, q.1 ∉ (τ2.led w).map (·.1)) : NodeOk w src inr D aT REST C i (us ++ [.int (C.n : Int) t]) (r ++ [C.n]) τ2 (Str.ofString "element") o pa pv pe where
  aT := hA
  st := H2
  hb := hb
  hpa := hpa
  hpv := hpv
  us := by rw [← List.cons_append, natInts_snoc]; exact ints_snoc ok.us
  r0 := by simp
  r1 := by have := ok.r1; simp only [List.length_append, List.length_cons, List.length_nil]; omega
  rk := fun j hj => by
    rcases List.mem_append.mp hj with hj | hj
    · exact ⟨Nat.lt_succ_of_lt (ok.rk j hj).1, by rw [show (C.add (Str.ofString "element") o).kind j = C.kind j from if_neg (Nat.ne_of_lt (ok.rk j hj).1)]; exact (ok.rk j hj).2⟩
    · rw [List.mem_singleton.mp hj]
      exact ⟨Nat.lt_succ_self _, if_pos rfl⟩
  os := fun q hq e => ap2 _ (.head _) (List.mem_map.mpr ⟨q, hq, e⟩)
  oi := fun q hq e => ap2 _ (.tail _ (.head _)) (List.mem_map.mpr ⟨q, hq, e⟩)
  oD := fun q hq e => ap2 _ (.tail _ (.tail _ (.head _))) (List.mem_map.mpr ⟨q, hq, e⟩)
  ap := fun q hq => ap2 q (.tail _ (.tail _ (.tail _ hq)))
theorem hat_as (H : Store w C kName pName i τ) {j : Nat} (hi : i < 8) {P : RowC} (rP : RowOk C kName pName i j P) : ∀ v ∈ P.as, ∃ i' t Ri su tu sl tl, v = .int ((i' : Nat) : Int) t ∧ τ.rows[i']? = some Ri ∧ Ri.vu = .str su tu ∧ Ri.vl = .str sl tl ∧ sl ≠ kName i := fun v hv => by
  obtain ⟨c, t, rfl, hc⟩ := own_of rP.as hv
  obtain ⟨R, hR, r⟩ := H.row c (Core.sub_lt c hc)
  obtain ⟨u, tu, hu⟩ := r.uri
  obtain ⟨l, tl, hl, hn⟩ := r.loc
  exact ⟨c, t, R, u, tu, l, tl, rfl, hR, hu, hl, hn i (Nat.le_refl _) hi⟩
theorem hat_ns (H : Store w C kName pName i τ) {j : Nat} (hi : i < 8) {P : RowC} (rP : RowOk C kName pName i j P) : ∀ v ∈ P.ns, ∃ i' t Ri sl tl, v = .int ((i' : Nat) : Int) t ∧ τ.rows[i']? = some Ri ∧ Ri.vn = .str sl tl ∧ sl ≠ pName i := fun v hv => by
  obtain ⟨c, t, rfl, hc⟩ := own_of rP.ns hv
  obtain ⟨R, hR, r⟩ := H.row c (Core.sub_lt c hc)
  obtain ⟨l, tl, hl, hn⟩ := r.nm
  exact ⟨c, t, R, l, tl, rfl, hR, hl, hn i (Nat.le_refl _) hi⟩
theorem ints_short (H : Store w C kName pName i τ) {vs : List Value} {p : Str → Bool} {j : Nat} (hi : IntsAre vs (natInts (C.sub p j))) : vs.length < 500 := by
  rw [hi.length]; simp only [natInts, List.length_map]; exact Nat.lt_of_le_of_lt Core.sub_len (Nat.lt_trans H.small (by decide))
end
theorem up_short {S : Shape} {τ : TreeC} (hS : S.Of τ) {o : Option Nat} (hb : ∀ j, o = some j → j < S.n) {vs : List Value} (h : IntsAre vs (natInts (S.up o).reverse)) : vs.length < 500 := by
  rw [h.length]
  simp only [natInts, List.length_map, List.length_reverse]
  have := hS.small
  cases o with
  | none => rw [show S.up none = [] from rfl]; simp
  | some j => have := Shape.up_len hS (hb j rfl); omega
theorem grow_step {w : World} {src inr e p pa L : Addr} {i c c1 c2 pe n : Nat} {C : Core} {τ τ' : TreeC} {ρ : RowsC} {y y' x' : Int} {us us' pv : List Value} {r r' : List Nat} {REST own EX NEWS : List (Addr × Obj)} {kd : Str} {o : Option Nat} {tk1 tn tx ty : Tok} {od' S0 I0 : Obj} {g h : Heap} {m : Str → Option Value}
    (ok : GrowOk w src i C τ ρ y inr us r) (O : NodeOk w src inr ρ.D τ.aT REST C i us' r' τ' kd o pa pv pe) (hREST : REST = ρ.tail ++ own ++ EX) (hoff : TbOff own ((src, S0) :: (inr, I0) :: (ρ.D, ρ.od) :: (τ.led w ++ ρ.tail)))
    (y0 : 0 ≤ y') (y1 : y' < 2147483648) (hd' : od'.IsDictOf (PySem.intKind Prg w) (stored (kvsFrom 0 ρ.ents) ((C.n : Nat) : Int) (.ref e))) (_N : News g L h NEWS) (_F : Fr g L h m)
    (hN : ∀ q ∈ (e, listOf #[.str kd tk1, .ref p] c1) :: (p, listOf (pv ++ [Value.int (C.n : Int) tn]).toArray c2) :: (src, listOf #[.int x' tx, .int y' ty] n) :: (inr, listOf us'.toArray c) :: (ρ.D, od') :: (τ'.led w ++ REST), q ∈ NEWS)
    (l1 : @LT.lt Nat instLTNat src p) (l2 : @LT.lt Nat instLTNat inr p) (l3 : @LT.lt Nat instLTNat ρ.D p) (l4 : AllLt p (τ'.led w ++ REST)) (l5 : @LT.lt Nat instLTNat p e)
    (m1 : m (Str.ofString "source") = some (.ref src)) (m2 : m (Str.ofString "tree") = some (.ref τ.aT)) (m3 : m (Str.ofString "rows") = some (.ref ρ.D)) (m4 : m (Str.ofString "inner") = some (.ref inr)) :
    ∃ nx, (∀ q ∈ nx, q ∈ NEWS) ∧ (∀ q ∈ own, q ∈ NEWS) ∧ TbOff own nx ∧ GInv w src (i + 1) m nx := by
  have l4' : ∀ q ∈ τ'.led w ++ REST, @LT.lt Nat instLTNat q.1 p := ktn_ltOf l4
  have hown : ∀ q ∈ own, q ∈ REST := fun q hq => by rw [hREST]; exact List.mem_append_left _ (List.mem_append_right _ hq)
  have htl : ∀ q ∈ ρ.tail, q ∈ REST := fun q hq => by rw [hREST]; exact List.mem_append_left _ (List.mem_append_left _ hq)
  have hE : (⟨ρ.D, od', ρ.ents ++ [⟨e, p, .str kd tk1, c1, c2, pv ++ [Value.int (C.n : Int) tn]⟩]⟩ : RowsC).tail = ρ.tail ++ [(e, listOf #[.str kd tk1, .ref p] c1), (p, listOf (pv ++ [Value.int (C.n : Int) tn]).toArray c2)] := by
    simp only [RowsC.tail, List.flatMap_append, List.flatMap_cons, List.flatMap_nil, List.append_nil, EntC.led]
  have hep : ∀ (a : Addr), @LT.lt Nat instLTNat a p → ∀ q ∈ ([(e, listOf #[.str kd tk1, .ref p] c1), (p, listOf (pv ++ [Value.int (C.n : Int) tn]).toArray c2)] : List (Addr × Obj)), @LT.lt Nat instLTNat a q.1 := fun a ha q hq => by
    simp only [List.mem_cons, List.not_mem_nil, or_false] at hq
    rcases hq with rfl | rfl
    · exact Nat.lt_trans ha l5
    · exact ha
  refine ⟨(src, listOf #[.int x' tx, .int y' ty] n) :: (inr, listOf us'.toArray c) :: (ρ.D, od') :: (τ'.led w ++ (⟨ρ.D, od', ρ.ents ++ [⟨e, p, .str kd tk1, c1, c2, pv ++ [Value.int (C.n : Int) tn]⟩]⟩ : RowsC).tail), ?_, fun q hq => hN q (.tail _ (.tail _ (.tail _ (.tail _ (.tail _ (List.mem_append_right _ (hown q hq))))))), ?_, ?_⟩
  · rw [hE]
    intro q hq
    refine hN q ?_
    simp only [List.mem_cons, List.mem_append, List.not_mem_nil, or_false] at hq ⊢
    rcases hq with h | h | h | h | h | h | h
    · exact .inr (.inr (.inl h))
    · exact .inr (.inr (.inr (.inl h)))
    · exact .inr (.inr (.inr (.inr (.inl h))))
    · exact .inr (.inr (.inr (.inr (.inr (.inl h)))))
    · exact .inr (.inr (.inr (.inr (.inr (.inr (htl q h))))))
    · exact .inl h
    · exact .inr (.inl h)
  · rw [hE]
    intro a ha q hq
    simp only [List.mem_cons, List.mem_append, List.not_mem_nil, or_false] at hq
    rcases hq with rfl | rfl | rfl | h | h | h
    · exact hoff a ha (src, S0) (.head _)
    · exact hoff a ha (inr, I0) (.tail _ (.head _))
    · exact hoff a ha (ρ.D, ρ.od) (.tail _ (.tail _ (.head _)))
    · exact fun e' => O.ap a (hown a ha) (List.mem_map.mpr ⟨q, h, e'.symm⟩)
    · exact hoff a ha q (.tail _ (.tail _ (.tail _ (List.mem_append_right _ h))))
    · exact Nat.ne_of_lt (hep a.1 (l4' a (List.mem_append_right _ (hown a ha))) q (by simpa using h))
  · refine ⟨C.add kd o, τ', ⟨ρ.D, od', ρ.ents ++ [⟨e, p, .str kd tk1, c1, c2, pv ++ [Value.int (C.n : Int) tn]⟩]⟩, x', y', tx, ty, n, inr, us', c, r', rfl, ?_, m1, by rw [O.aT]; exact m2, m3, m4⟩
    have hrow := rowsof_add ok.st O.st O.hb ok.rows (E := ⟨e, p, .str kd tk1, c1, c2, pv ++ [Value.int (C.n : Int) tn]⟩) ⟨_, rfl⟩ (by rw [natInts_snoc]; exact ints_snoc O.hpv) (by rw [← kvs_stored ok.rows.len]; exact hd')
    refine ⟨y0, y1, O.st, by have := ok.n; simp only [Core.add]; omega, hrow, O.us, O.r0, O.r1, O.rk, ?_, ok.si, ok.sD, ok.iD, ?_, ?_, ?_, ?_, ?_⟩
    · rw [show (C.add kd o).kind 0 = C.kind 0 from if_neg (by have := ok.n; omega)]; exact ok.rt
    · rw [hE]
      intro q hq
      rcases List.mem_append.mp hq with hq | hq
      · exact O.os q hq
      rcases List.mem_append.mp hq with hq | hq
      · exact ok.os q (List.mem_append_right _ hq)
      · exact Nat.ne_of_gt (hep src l1 q hq)
    · rw [hE]
      intro q hq
      rcases List.mem_append.mp hq with hq | hq
      · exact O.oi q hq
      rcases List.mem_append.mp hq with hq | hq
      · exact ok.oi q (List.mem_append_right _ hq)
      · exact Nat.ne_of_gt (hep inr l2 q hq)
    · rw [hE]
      intro q hq
      rcases List.mem_append.mp hq with hq | hq
      · exact O.oD q hq
      rcases List.mem_append.mp hq with hq | hq
      · exact ok.oD q (List.mem_append_right _ hq)
      · exact Nat.ne_of_gt (hep ρ.D l3 q hq)
    · rw [hE]
      intro q hq hm
      rcases List.mem_append.mp hq with hq | hq
      · exact O.ap q (htl q hq) hm
      · obtain ⟨z, hz, e'⟩ := List.mem_map.mp hm
        exact absurd e' (Nat.ne_of_lt (hep z.1 (l4' z (List.mem_append_left _ hz)) q hq))
    · rw [hE, List.map_append]
      refine List.nodup_append.mpr ⟨ok.nd, ?_, fun a ha b hb => ?_⟩
      · simp only [List.map_cons, List.map_nil, List.nodup_cons, List.mem_cons, List.not_mem_nil, or_false, not_false_eq_true, List.nodup_nil, and_true]
        exact Nat.ne_of_gt l5
      · obtain ⟨z, hz, rfl⟩ := List.mem_map.mp ha
        obtain ⟨q, hq, rfl⟩ := List.mem_map.mp hb
        exact Nat.ne_of_lt (hep z.1 (l4' z (List.mem_append_right _ (htl z hz))) q hq)
/-- how the law's document stands: what _law_grown makes, what _law_loosened keeps -/
structure WOk (w : World) (src : Addr) (C : Core) (τ : TreeC) (ρ : RowsC) (y : Int) : Prop where
  y0 : 0 ≤ y
  y1 : y < 2147483648
  st : Store w C kName pName 8 τ
  n : C.n ≤ 10
  rows : RowsOf w C.shape ρ
  sD : @Ne Nat src ρ.D
  os : ∀ p ∈ τ.led w ++ ρ.tail, p.1 ≠ src
  oD : ∀ p ∈ τ.led w ++ ρ.tail, p.1 ≠ ρ.D
  ap : ∀ q ∈ ρ.tail, q.1 ∉ (τ.led w).map (·.1)
  nd : (ρ.tail.map (·.1)).Nodup
theorem GrowOk.done {w : World} {src inr : Addr} {k : Nat} {C : Core} {τ : TreeC} {ρ : RowsC} {y : Int} {us : List Value} {r : List Nat} (ok : GrowOk w src k C τ ρ y inr us r) (hk : k ≤ 8) : WOk w src C τ ρ y :=
  ⟨ok.y0, ok.y1, ok.st.mono hk, by have := ok.n; omega, ok.rows, ok.sD, ok.os, ok.oD, ok.ap, ok.nd⟩
abbrev pairT (a b : Value) : Obj := { cls := .type "tuple", data := .seq #[a, b] }
theorem WOk.fresh {w : World} {src : Addr} {C : Core} {τ : TreeC} {ρ : RowsC} {y : Int} (W : WOk w src C τ ρ y) : ∀ S : Obj, ∀ q ∈ (src, S) :: (ρ.D, ρ.od) :: (τ.led w ++ ρ.tail), q.1 = src ∨ q.1 ≠ src := fun S q hq => by
  rcases List.mem_cons.mp hq with rfl | hq
  · exact .inl rfl
  rcases List.mem_cons.mp hq with rfl | hq
  · exact .inr fun e => W.sD e.symm
  · exact .inr (W.os q hq)
theorem sub3 {a b t : Addr × Obj} {l : List (Addr × Obj)} : ∀ q ∈ a :: l, q ∈ t :: a :: b :: l := fun q hq => by
  rcases List.mem_cons.mp hq with rfl | hq
  · exact .tail _ (.head _)
  · exact .tail _ (.tail _ (.tail _ hq))
end
section
example : True := by
  w_top off
  k_with_none
  k_with "!c1" => first | assumption | exact And.right (by k_extra "!c2") | fail
  k_with "!c2" => first | assumption | exact And.right (by k_extra "!c3") | fail
  k_with "!c3" => first | assumption | exact And.right (by k_extra "!c4") | fail
  k_with "!c4" => first | assumption | exact And.right (by k_extra "!c5") | fail
  k_with "!c5" => first | assumption | exact And.right (by k_extra "!c6") | fail
  k_with "!c6" => first | assumption | exact And.right (by k_extra "!c7") | fail
  k_with "!c7" => first | assumption | exact And.right (by k_extra "!c8") | fail
  k_with "!c8" => assumption
  k_with "!lt9" => with_reducible first | exact And.left (by k_extra "!c1") | exact And.right (by k_extra "!c1") | fail
  k_with "!omega" => with_reducible first | exact lt_dp (by assumption) (by with_unfolding_all exact rfl) | exact lt_un (by assumption) (by with_unfolding_all exact rfl) | assumption | exact Ne.symm (by assumption) | exact Nat.ne_of_lt (by assumption) | exact Nat.ne_of_gt (by assumption) | exact le_big (by assumption) (by with_unfolding_all exact rfl) | exact le_big2 (by assumption) (by with_unfolding_all exact rfl) | exact lt_big (by assumption) (by with_unfolding_all exact rfl) | exact Nat.le_of_ble_eq_true (by with_unfolding_all exact rfl) | exact Nat.ne_of_gt (lt_s (by assumption)) | exact Nat.ne_of_gt (lt_s (lt_s (by assumption))) | exact Nat.ne_of_gt (lt_s (lt_s (lt_s (by assumption)))) | exact Nat.ne_of_lt (by k_extra "!lt9") | exact Nat.ne_of_gt (by k_extra "!lt9") | (refine Nat.lt_of_lt_of_le ?_ (Nat.le_refl _); k_extra "!lt9") | fail
  k_with "!item" => first | (k_here; (with_reducible show wpAny _ _ (subscriptTail _ _ (Value.ref _) (Value.int _ _)) _ _ _); k_dflt (refine' kim_list ?N ?m ?c ?d ?z ?f ?x ?_; (case N => k_asm); (case m => k_mem); (case c => rfl); (case d => rfl); (case z => omega); (case f => omega); (case x => (try simp only [Int.toNat_natCast]); first | assumption | rfl | exact List.getElem?_eq_getElem (by omega)); k_whole)) | (k_here; (with_reducible show wpAny _ _ (subscriptTail _ _ (Value.ref _) (Value.int _ _)) _ _ _); k_dflt (refine' kda_item (knd := PySem.intKind _ _) ?N ?m ?d (intKind_is _ _ _ _) ?v ?_; (case N => k_asm); (case d => assumption); (case m => k_mem); (case v => assumption); k_whole))
  k_with "!subscriptTail" => k_extra "!item"
  k_with "!subscriptTail Name Constant ref int" => k_extra "!item"
  k_with "!subscriptTail Name Name ref int" => k_extra "!item"
  k_with "!k_all" => first | exact ne_of_allLt (by assumption) | exact ne_of_allLt (And.right (by assumption)) | exact ne_of_allLt (And.right (And.right (by assumption)))
  k_with "!k_handed" => with_reducible assumption
  k_with "!k_all" => first | exact ne_of_allNe (by assumption) | exact ne_of_allNe (And.right (by assumption)) | exact ne_of_allNe (And.right (And.right (by assumption)))
  k_with "!call ref" => k_extra "call ref"
  k_with "!k_all" => first | exact ne_of_lts2 (by assumption) | (with_reducible assumption)
  k_with "!k_mem" => assumption
  k_with "!callWith ref" => (k_here; k_dflt (first | (refine' callWith_K ?k1 ?k2 ?_; (case k1 => k_asm); (case k2 => k_is); k_whole) | (refine' callWith_K0 ?k1 ?k2 ?_; (case k1 => k_in); (case k2 => k_is); k_whole) | (refine' callWith_M0 ?k1 ?k2 ?_; (case k1 => k_meth); (case k2 => k_is); k_whole; try dsimp only [List.nil_append, List.cons_append]) | (refine' callWith_M ?k1 ?k2 ?k3 ?k4 ?_; (case k1 => k_asm); (case k2 => k_asm); (case k3 => k_mem); (case k4 => k_is); k_whole) | (refine' callWith_F ?k1 ?_; (case k1 => exact FnAt.of (by k_asm) (by k_mem)); k_whole)))
  k_with "!exec For Name Call cons nil" => k_extra "exec For"
  k_with "!pyIter ref" => k_extra "pyIter ref"
  k_with "!revslice" => (k_here; (with_reducible show wpAny _ _ (subscriptTail _ (PySem.Expr.Slice none none (some _) _) (Value.ref _) (Value.ref _)) _ _ _); k_dflt (refine' krv_ints ?F ?N ?l ?k ?i ?_ ?s ?t ?z; (case F => k_asm); (case N => k_asm); (case l => exact L_isList (by k_asm) (by k_mem)); (case k => exact IsPart.int _ _); (case i => assumption); (case s => with_unfolding_all rfl); (case t => (intro _; with_unfolding_all rfl)); (case z => (rw [List.size_toArray, sizeLine_eq]; omega))); intro zqD zqws zqh zqF zqN zql1 zqhI zqhC; (have zqhW := IntsAre.length zqhI); (replace zql1 := allLt_of zql1); (try simp only [AllLt, and_true] at zql1))
  k_with "!subscriptTail Name Slice ref ref" => k_extra "!revslice"
  k_with "!eval Name" => (k_here; kc_free; k_dflt (refine' nameX_F ?N ?c ?m ?d ?_ ?a ?b; (case a => rfl); (case b => rfl); (case N => k_asm); (case c => rfl); (case m => k_mem); (case d => k_asm); k_whole))
  k_with "!exec Return some" => k_extra "exec Return some"
  k_with "!eval Dict" => (k_here; k_dflt (refine' kdn_eval (knd := PySem.intKind _ _) ?F ?N ?b ?a ?l ?e ?n ?_; (case F => k_asm); (case N => k_asm); (case b => exact Top.nolimit (by k_asm)); (case a => rfl); (case l => rfl); (case e => exact List.cons_ne_nil _ _); (case n => exact Nat.le_of_ble_eq_true rfl)); intro zqd zqh zqo zqF zqN zql1 zqlo zqhd; (try k_lt zql1))
  k_with "!call type:range" => ((with_reducible show wpAny _ _ (call _ [_]) _ _ _); (rename Fr _ _ _ _ => zqF); (rename News _ _ _ _ => zqN); (with_unfolding_all refine range1_rows zqF zqN ?_); intro zqh zqtk zqt1 zqu1 zqv1 zqhR zqF zqN zqka)
  trivial
section
example : True := by
  k_with "!k_room" => ((try simp only [depth_under_make, depth_under_kw, depth_in1, depth_deeper, depth_caller]); (show _ < (1000 : Nat)); (try dsimp only); omega)
  k_with "!binaryOp Add ref ref" => (k_here; (with_reducible show wpAny _ _ (binaryOp _ (Value.ref _) (Value.ref _)) _ _ _); k_dflt (refine' add_my ?F ?N ?a ?b ?z ?_; (case F => k_asm); (case N => k_asm); (case a => k_mem); (case b => k_mem); (case z => ((try simp only [List.length_append, List.length_cons, List.length_nil]); omega)); k_whole); intro zqD zqh zqF zqN zql1; (try simp only [AllLt, and_true] at zql1))
  k_with "!k_mem" => exact List.mem_append_left _ (by assumption)
  k_with "!U2" => ((case B => assumption); (case F => k_asm); (case X => assumption); (case T => assumption); (case hf => exact rfl); (case hk => exact rfl); (case N => k_asm); (case U => k_updF); (case hdp => ((try dsimp only); omega)); (case hun => ((try dsimp only); omega)); k_whole)
  k_with "!call ref" => (k_here; (rename True => zqmark9); (with_reducible show wpAny _ _ (call (Value.ref 327) _) _ _ _); k_dflt (refine' use_upd (take_spec ?h1 ?h2 ?h3 ?h4) ?B ?F ?X ?T ?hf ?hk ?N ?U ?hdp ?hun ?_; (case h1 => omega); (case h2 => omega); (case h3 => assumption); (case h4 => assumption); k_extra "!U2"); rintro zqv zqo zqh zqtk zqF zqN ⟨zqr, zqt, zqx, zqtx, zqy, zqty, zqn, zqev, zqr0, zqr1, zqy0, zqy1, zqeo⟩; subst zqev; subst zqeo; (try dsimp only))
  k_with "!call ref" => (k_here; (rename True => zqmark9); (with_reducible show wpAny _ _ (call (Value.ref 334) _) _ _ _); k_dflt (refine' use_one ?h1 ?h2 ?h3 ?h4 ?h5 ?h6 ?B ?F ?X ?T ?hf ?hk ?N ?U ?hdp ?hun ?_; (case B => assumption); (case F => k_asm); (case X => assumption); (case T => assumption); (case hf => exact rfl); (case hk => exact rfl); (case N => k_asm); (case h6 => k_mem); (case U => k_updF); (case h1 => (first | ((try simp only [List.length_append, List.length_cons, List.length_nil]); omega) | ((rename (IntsAre _ (List.drop _ _)) => zqhI9); (have zqhW9 := IntsAre.length zqhI9); (simp only [natInts, List.map_cons, List.drop_succ_cons, List.drop_zero, List.length_map] at zqhW9); omega))); (case h2 => (first | ((try simp only [List.length_append, List.length_cons, List.length_nil]); omega) | ((rename (IntsAre _ (List.drop _ _)) => zqhI9); (have zqhW9 := IntsAre.length zqhI9); (simp only [natInts, List.map_cons, List.drop_succ_cons, List.drop_zero, List.length_map] at zqhW9); omega))); (case h3 => assumption); (case h4 => assumption); (case h5 => k_ne); (case hdp => ((try dsimp only); omega)); (case hun => ((try dsimp only); omega)); k_whole); intro zqv zqx zqtx zqy zqty zqn zqh zqtk zqF zqN zqy0 zqy1 zqhv)
  k_with "!setItem ref int" => (k_here; (rename True => zqmark7); k_dflt (refine' kda_set (knd := PySem.intKind _ _) ?F ?N ?U ?d (intKind_is _ _ _ _) ?z ?_; (case F => k_asm); (case N => k_asm); (case U => k_updF); (case d => assumption); (case z => (rw [sizeLine_eq]; omega)); k_whole); intro zqh zqo zqF zqN zqhd; (try dsimp only at zqN))
  trivial
set_option maxHeartbeats 8000000 in
theorem grown_spec {w : World} {src : Addr} {x y : Int} {tx ty tm : Tok} {n : Nat} (hy : 0 ≤ y) (hy2 : y < 2147483648) {h : Heap} :
    Spec w (.ref 341) [.ref src, .int 8 tm] 20 [(src, srcL x y tx ty n)]
      (fun v h' => ∃ a C τ ρ x' y' tx' ty' n', v = .ref a ∧ WOk w src C τ ρ y' ∧ ∀ q ∈ (a, pairT (.ref τ.aT) (.ref ρ.D)) :: (src, srcL x' y' tx' ty' n') :: (ρ.D, ρ.od) :: (τ.led w ++ ρ.tail), h'.get? q.1 = some q.2 ∧ (q.1 = src ∨ h.get? q.1 = none)) h := by
  refine enter (binds := [(Str.ofString "source", .ref src), (Str.ofString "many", .int 8 tm)]) (by k_is) (by k_is) (fun s => BindsTo.of_eq rfl) (locs rfl) rfl rfl rfl (by decide) ?_
  intro dp un gd env outer A₀ base g L' h₁ p loose mean mg mb gs ds tk os B X T F N lt hdp hun kp
  k_fold
  k_with_none
  k_with "!c1" => first | assumption | exact And.right (by k_extra "!c2") | fail
  k_with "!c2" => first | assumption | exact And.right (by k_extra "!c3") | fail
  k_with "!c3" => first | assumption | exact And.right (by k_extra "!c4") | fail
  k_with "!c4" => first | assumption | exact And.right (by k_extra "!c5") | fail
  k_with "!c5" => first | assumption | exact And.right (by k_extra "!c6") | fail
  k_with "!c6" => first | assumption | exact And.right (by k_extra "!c7") | fail
  k_with "!c7" => first | assumption | exact And.right (by k_extra "!c8") | fail
  k_with "!c8" => assumption
  k_with "!lt9" => with_reducible first | exact And.left (by k_extra "!c1") | exact And.right (by k_extra "!c1") | fail
  k_with "!omega" => with_reducible first | exact lt_dp (by assumption) (by with_unfolding_all exact rfl) | exact lt_un (by assumption) (by with_unfolding_all exact rfl) | assumption | exact Ne.symm (by assumption) | exact Nat.ne_of_lt (by assumption) | exact Nat.ne_of_gt (by assumption) | exact le_big (by assumption) (by with_unfolding_all exact rfl) | exact le_big2 (by assumption) (by with_unfolding_all exact rfl) | exact lt_big (by assumption) (by with_unfolding_all exact rfl) | exact Nat.le_of_ble_eq_true (by with_unfolding_all exact rfl) | exact Nat.ne_of_gt (lt_s (by assumption)) | exact Nat.ne_of_gt (lt_s (lt_s (by assumption))) | exact Nat.ne_of_gt (lt_s (lt_s (lt_s (by assumption)))) | exact Nat.ne_of_lt (by k_extra "!lt9") | exact Nat.ne_of_gt (by k_extra "!lt9") | (refine Nat.lt_of_lt_of_le ?_ (Nat.le_refl _); k_extra "!lt9") | fail
  k_with "!item" => first | (k_here; (with_reducible show wpAny _ _ (subscriptTail _ _ (Value.ref _) (Value.int _ _)) _ _ _); k_dflt (refine' kim_list ?N ?m ?c ?d ?z ?f ?x ?_; (case N => k_asm); (case m => k_mem); (case c => rfl); (case d => rfl); (case z => omega); (case f => omega); (case x => (try simp only [Int.toNat_natCast]); first | assumption | rfl | exact List.getElem?_eq_getElem (by omega)); k_whole)) | (k_here; (with_reducible show wpAny _ _ (subscriptTail _ _ (Value.ref _) (Value.int _ _)) _ _ _); k_dflt (refine' kda_item (knd := PySem.intKind _ _) ?N ?m ?d (intKind_is _ _ _ _) ?v ?_; (case N => k_asm); (case d => assumption); (case m => k_mem); (case v => assumption); k_whole))
  k_with "!subscriptTail" => k_extra "!item"
  k_with "!subscriptTail Name Constant ref int" => k_extra "!item"
  k_with "!subscriptTail Name Name ref int" => k_extra "!item"
  k_with "!k_all" => first | exact ne_of_allLt (by assumption) | exact ne_of_allLt (And.right (by assumption)) | exact ne_of_allLt (And.right (And.right (by assumption)))
  k_with "!k_handed" => with_reducible assumption
  k_with "!k_all" => first | exact ne_of_allNe (by assumption) | exact ne_of_allNe (And.right (by assumption)) | exact ne_of_allNe (And.right (And.right (by assumption)))
  k_with "!call ref" => k_extra "call ref"
  k_with "!k_all" => first | exact ne_of_lts2 (by assumption) | (with_reducible assumption)
  k_with "!k_mem" => assumption
  k_with "!callWith ref" => (k_here; k_dflt (first | (refine' callWith_K ?k1 ?k2 ?_; (case k1 => k_asm); (case k2 => k_is); k_whole) | (refine' callWith_K0 ?k1 ?k2 ?_; (case k1 => k_in); (case k2 => k_is); k_whole) | (refine' callWith_M0 ?k1 ?k2 ?_; (case k1 => k_meth); (case k2 => k_is); k_whole; try dsimp only [List.nil_append, List.cons_append]) | (refine' callWith_M ?k1 ?k2 ?k3 ?k4 ?_; (case k1 => k_asm); (case k2 => k_asm); (case k3 => k_mem); (case k4 => k_is); k_whole) | (refine' callWith_F ?k1 ?_; (case k1 => exact FnAt.of (by k_asm) (by k_mem)); k_whole)))
  k_with "!exec For Name Call cons nil" => k_extra "exec For"
  k_with "!pyIter ref" => k_extra "pyIter ref"
  k_with "!revslice" => (k_here; (with_reducible show wpAny _ _ (subscriptTail _ (PySem.Expr.Slice none none (some _) _) (Value.ref _) (Value.ref _)) _ _ _); k_dflt (refine' krv_ints ?F ?N ?l ?k ?i ?_ ?s ?t ?z; (case F => k_asm); (case N => k_asm); (case l => exact L_isList (by k_asm) (by k_mem)); (case k => exact IsPart.int _ _); (case i => assumption); (case s => with_unfolding_all rfl); (case t => (intro _; with_unfolding_all rfl)); (case z => (rw [List.size_toArray, sizeLine_eq]; omega))); intro zqD zqws zqh zqF zqN zql1 zqhI zqhC; (have zqhW := IntsAre.length zqhI); (replace zql1 := allLt_of zql1); (try simp only [AllLt, and_true] at zql1))
  k_with "!subscriptTail Name Slice ref ref" => k_extra "!revslice"
  k_with "!eval Name" => (k_here; kc_free; k_dflt (refine' nameX_F ?N ?c ?m ?d ?_ ?a ?b; (case a => rfl); (case b => rfl); (case N => k_asm); (case c => rfl); (case m => k_mem); (case d => k_asm); k_whole))
  k_with "!exec Return some" => k_extra "exec Return some"
  k_with "!eval Dict" => (k_here; k_dflt (refine' kdn_eval (knd := PySem.intKind _ _) ?F ?N ?b ?a ?l ?e ?n ?_; (case F => k_asm); (case N => k_asm); (case b => exact Top.nolimit (by k_asm)); (case a => rfl); (case l => rfl); (case e => exact List.cons_ne_nil _ _); (case n => exact Nat.le_of_ble_eq_true rfl)); intro zqd zqh zqo zqF zqN zql1 zqlo zqhd; (try k_lt zql1))
  k_with "!call type:range" => ((with_reducible show wpAny _ _ (call _ [_]) _ _ _); (rename Fr _ _ _ _ => zqF); (rename News _ _ _ _ => zqN); (with_unfolding_all refine range1_rows zqF zqN ?_); intro zqh zqtk zqt1 zqu1 zqv1 zqhR zqF zqN zqka)
  k_with "!k_room" => ((try simp only [depth_under_make, depth_under_kw, depth_in1, depth_deeper, depth_caller]); (show _ < (1000 : Nat)); (try dsimp only); omega)
  k_with "!binaryOp Add ref ref" => (k_here; (with_reducible show wpAny _ _ (binaryOp _ (Value.ref _) (Value.ref _)) _ _ _); k_dflt (refine' add_my ?F ?N ?a ?b ?z ?_; (case F => k_asm); (case N => k_asm); (case a => k_mem); (case b => k_mem); (case z => ((try simp only [List.length_append, List.length_cons, List.length_nil]); omega)); k_whole); intro zqD zqh zqF zqN zql1; (try simp only [AllLt, and_true] at zql1))
  k_with "!k_mem" => exact List.mem_append_left _ (by assumption)
  k_with "!U2" => ((case B => assumption); (case F => k_asm); (case X => assumption); (case T => assumption); (case hf => exact rfl); (case hk => exact rfl); (case N => k_asm); (case U => k_updF); (case hdp => ((try dsimp only); omega)); (case hun => ((try dsimp only); omega)); k_whole)
  k_with "!call ref" => (k_here; (rename True => zqmark9); (with_reducible show wpAny _ _ (call (Value.ref 327) _) _ _ _); k_dflt (refine' use_upd (take_spec ?h1 ?h2 ?h3 ?h4) ?B ?F ?X ?T ?hf ?hk ?N ?U ?hdp ?hun ?_; (case h1 => omega); (case h2 => omega); (case h3 => assumption); (case h4 => assumption); k_extra "!U2"); rintro zqv zqo zqh zqtk zqF zqN ⟨zqr, zqt, zqx, zqtx, zqy, zqty, zqn, zqev, zqr0, zqr1, zqy0, zqy1, zqeo⟩; subst zqev; subst zqeo; (try dsimp only))
  k_with "!call ref" => (k_here; (rename True => zqmark9); (with_reducible show wpAny _ _ (call (Value.ref 334) _) _ _ _); k_dflt (refine' use_one ?h1 ?h2 ?h3 ?h4 ?h5 ?h6 ?B ?F ?X ?T ?hf ?hk ?N ?U ?hdp ?hun ?_; (case B => assumption); (case F => k_asm); (case X => assumption); (case T => assumption); (case hf => exact rfl); (case hk => exact rfl); (case N => k_asm); (case h6 => k_mem); (case U => k_updF); (case h1 => (first | ((try simp only [List.length_append, List.length_cons, List.length_nil]); omega) | ((rename (IntsAre _ (List.drop _ _)) => zqhI9); (have zqhW9 := IntsAre.length zqhI9); (simp only [natInts, List.map_cons, List.drop_succ_cons, List.drop_zero, List.length_map] at zqhW9); omega))); (case h2 => (first | ((try simp only [List.length_append, List.length_cons, List.length_nil]); omega) | ((rename (IntsAre _ (List.drop _ _)) => zqhI9); (have zqhW9 := IntsAre.length zqhI9); (simp only [natInts, List.map_cons, List.drop_succ_cons, List.drop_zero, List.length_map] at zqhW9); omega))); (case h3 => assumption); (case h4 => assumption); (case h5 => k_ne); (case hdp => ((try dsimp only); omega)); (case hun => ((try dsimp only); omega)); k_whole); intro zqv zqx zqtx zqy zqty zqn zqh zqtk zqF zqN zqy0 zqy1 zqhv)
  k_with "!setItem ref int" => (k_here; (rename True => zqmark7); k_dflt (refine' kda_set (knd := PySem.intKind _ _) ?F ?N ?U ?d (intKind_is _ _ _ _) ?z ?_; (case F => k_asm); (case N => k_asm); (case U => k_updF); (case d => assumption); (case z => (rw [sizeLine_eq]; omega)); k_whole); intro zqh zqo zqF zqN zqhd; (try dsimp only at zqN))
  k_with "call ref" =>
    (fail_if_success (with_reducible show wpAny _ _ (call (Value.ref 309) _) _ _ _))
    refine Hold.out ?_
  k_steps
  refine ⟨?_⟩
  dsimp only [List.cons_append, List.nil_append]
  rename Fr _ _ _ _ => F1
  rename News _ _ _ _ => N1
  obtain ⟨τ0, eT, er, nd0, N2, ap0⟩ := tree0 (w := w) N1 (by k_ne) (by k_ne) (by k_ne) (by k_all) (by k_all) (by k_all)
  subst eT
  have H0 : Store w Core.none kName pName 0 τ0 := Store.none er nd0
  refine use_tree (newroot_spec (τ := τ0) (by rw [er]; decide) nd0) B F1 X T rfl rfl N2 ap0 (by omega) (by omega) ?_
  intro v1 τ1 h1 tk1 F2 N3 ap1 hA1
  obtain ⟨⟨t1, ev1⟩, H1⟩ := H0.added hA1 (by decide) (fun j e => nomatch e) (.inr ⟨rfl, rfl⟩) noP_empty noK_empty
  have ev1' : v1 = .int 0 t1 := ev1
  clear ev1
  subst ev1'
  have hT1 : (τ0.aT, instObj 309 τ1.dT) ∈ τ1.led w ++ [(src, listOf #[Value.int x tx, Value.int y ty] n)] := by rw [← hA1.aT]; exact .head _
  have hT2 : (τ1.dT, treeDict w τ1.aR τ1.t τ1.e₁) ∈ τ1.led w ++ [(src, listOf #[Value.int x tx, Value.int y ty] n)] := .tail _ (.head _)
  k_steps
  refine ⟨?_⟩
  rename Fr _ _ _ _ => F1
  rename News _ _ _ _ => N1
  rw [show τ0.aT = τ1.aT from hA1.aT.symm]
  refine use_tree (addelement_spec (τ := τ1) (o := some 0) ⟨_, rfl⟩ (H1.can fun j e => by cases e; exact ⟨by decide, .inl rfl⟩) (by rw [H1.len]; decide) H1.nd) B F1 X T rfl rfl N1 ap1 (by omega) (by omega) ?_
  intro v2 τ2 h2 tk2 F3 N4 ap2 hA2
  obtain ⟨⟨t2, ev2⟩, H2⟩ := H1.added hA2 (by decide) (fun j e => by cases e; exact ⟨by decide, .inl rfl⟩) (.inl (by decide)) noP_r noK_r
  have ev2' : v2 = .int 1 t2 := ev2
  clear ev2
  subst ev2'
  have hs2 : ∀ q ∈ τ2.led w, q.1 ≠ src := apart_flip ap2 _ (.head _)
  replace N4 := flip N4
  rw [List.cons_append, List.nil_append] at N4
  have hT1 : (τ0.aT, instObj 309 τ2.dT) ∈ τ2.led w := by rw [← hA1.aT, ← hA2.aT]; exact .head _
  have hT2 : (τ2.dT, treeDict w τ2.aR τ2.t τ2.e₁) ∈ τ2.led w := .tail _ (.head _)
  k_steps
  refine ⟨?_⟩
  rename Fr _ _ _ _ => F1
  rename News _ _ _ _ => N1
  refine use_upd (take_spec (by omega) (by omega) hy hy2) B F1 X T rfl rfl N1 (by k_updF) (by omega) (by omega) ?_
  rintro v' o' h' tk' F' N' ⟨r', t', x', tx', y', ty', n', ev', r0', r1', y0', y1', eo'⟩
  subst ev'
  subst eo'
  dsimp only
  k_with "pyIter ref" =>
    refine Hold.out ?_
  k_steps
  refine ⟨?_⟩
  rename Fr _ _ _ _ => F1
  rename News _ _ _ _ => N1
  rename IsRange _ _ _ _ _ _ _ _ => R1
  rename (Obj.IsDictOf _ _ _) => hd9
  rename (_ == sysModules) = false => lo9
  rename (_ ∧ AllLt _ (TreeC.led w τ2)) => l9
  have e2 : τ2.aT = τ0.aT := by rw [hA2.aT, hA1.aT]
  obtain ⟨nx, N2', G0⟩ := grow0 F1 N1 hd9 lo9 H2 (by omega) (by omega) (by omega) (by omega) (by omega) (by omega) (fun q hq => ktn_ltOf l9.2 q hq) hs2 y0' y1' rfl (by rw [e2]; rfl) rfl rfl
  refine tbr_invG (n := r'.toNat) (fun k m nx => GInv w src k m nx) rfl R1 (small_one (by omega) (by omega) (by omega) (by omega)) ?rs F1 N2' G0 ?turn ?done
  case rs =>
    unfold Builtin.Range.rangeSize
    rw [if_pos (by decide)]
    split
    · rw [Int.ediv_one]; omega
    · omega
  case turn =>
    clear N1 hd9 lo9 l9 G0 N2' F1
    intro i k t m₁ nx h tk own hk hoff hJ F₁ N₁
    obtain ⟨C, τ, ρ, x, y, tx, ty, n, inr, us, c, r, rfl, ok, e1, e2, e3, e4⟩ := hJ
    have F₂ := fr_pinsX (l := [(Str.ofString "source", _), (Str.ofString "tree", _), (Str.ofString "rows", _), (Str.ofString "inner", _)]) F₁ (allC e1 (allC e2 (all2 e3 e4)))
    clear F₁ e1 e2 e3 e4
    simp only [List.cons_append] at N₁
    obtain ⟨hin, rfl⟩ : i < 8 ∧ k = ((i : Nat) : Int) := by
      simp only [rangeKs, List.getElem?_map, Option.map_eq_some_iff] at hk
      obtain ⟨a, ha, rfl⟩ := hk
      obtain ⟨h1, h2⟩ := List.getElem?_eq_some_iff.mp ha
      simp only [List.getElem_range] at h2
      simp only [List.length_range] at h1
      subst h2
      exact ⟨by omega, by omega⟩
    obtain ⟨R, hR⟩ : ∃ R, R = τ.led w ++ ρ.tail ++ own := ⟨_, rfl⟩
    have hRs : ∀ q ∈ R, q.1 ≠ src := fun q hq => by
      rw [hR] at hq
      rcases List.mem_append.mp hq with hq | hq
      · exact ok.os q hq
      · exact hoff q hq _ (.head _)
    have hRi : ∀ q ∈ R, q.1 ≠ inr := fun q hq => by
      rw [hR] at hq
      rcases List.mem_append.mp hq with hq | hq
      · exact ok.oi q hq
      · exact hoff q hq _ (.tail _ (.head _))
    have hRD : ∀ q ∈ R, q.1 ≠ ρ.D := fun q hq => by
      rw [hR] at hq
      rcases List.mem_append.mp hq with hq | hq
      · exact ok.oD q hq
      · exact hoff q hq _ (.tail _ (.tail _ (.head _)))
    rw [← hR] at N₁
    have y0 := ok.y0
    have y1 := ok.y1
    have si := ok.si
    have sD := ok.sD
    have iD := ok.iD
    have hus := ok.us
    have hul : us.length = r.length + 1 := by rw [ok.us.length]; simp [natInts]
    have hrl := ok.r1
    have hrp : 0 < r.length := List.length_pos_iff.mpr ok.r0
    have mark9 : True := trivial
    k_with "exec Assign cons IfExp" => refine Hold.out ?_
    k_steps
    refine ⟨?_⟩
    rename Fr _ _ _ _ => F1
    rename News _ _ _ _ => N1
    rename (IntsAre _ (List.drop _ _)) => hI9
    rename (_ ∈ us ++ [Value.none]) => hv1
    rename (_ ∈ _) => hv2
    obtain ⟨o, hpar, hpo⟩ := par_of hus hv1
    obtain ⟨jo, to, eo, hjo⟩ := own_of hI9 hv2
    subst eo
    rename True => mark8
    clear hv1 hv2 mark8
    have N2 := nsub N1 (fun q hq => .tail _ (.tail _ (.tail _ (.tail _ hq))))
    clear N1
    refine cutPath (base := [_, _, _]) ρ.tail (S := C.shape) (o := o) F1 N2 ?path ?_
    case path =>
      cases o with
      | none =>
        have e : _ = Value.none := hpar
        subst e
        k_with_none
        k_with "!c1" => first | assumption | exact And.right (by k_extra "!c2") | fail
        k_with "!c2" => first | assumption | exact And.right (by k_extra "!c3") | fail
        k_with "!c3" => first | assumption | exact And.right (by k_extra "!c4") | fail
        k_with "!c4" => first | assumption | exact And.right (by k_extra "!c5") | fail
        k_with "!c5" => first | assumption | exact And.right (by k_extra "!c6") | fail
        k_with "!c6" => first | assumption | exact And.right (by k_extra "!c7") | fail
        k_with "!c7" => first | assumption | exact And.right (by k_extra "!c8") | fail
        k_with "!c8" => assumption
        k_with "!lt9" => with_reducible first | exact And.left (by k_extra "!c1") | exact And.right (by k_extra "!c1") | fail
        k_with "!omega" => with_reducible first | exact lt_dp (by assumption) (by with_unfolding_all exact rfl) | exact lt_un (by assumption) (by with_unfolding_all exact rfl) | assumption | exact Ne.symm (by assumption) | exact Nat.ne_of_lt (by assumption) | exact Nat.ne_of_gt (by assumption) | exact le_big (by assumption) (by with_unfolding_all exact rfl) | exact le_big2 (by assumption) (by with_unfolding_all exact rfl) | exact lt_big (by assumption) (by with_unfolding_all exact rfl) | exact Nat.le_of_ble_eq_true (by with_unfolding_all exact rfl) | exact Nat.ne_of_gt (lt_s (by assumption)) | exact Nat.ne_of_gt (lt_s (lt_s (by assumption))) | exact Nat.ne_of_gt (lt_s (lt_s (lt_s (by assumption)))) | exact Nat.ne_of_lt (by k_extra "!lt9") | exact Nat.ne_of_gt (by k_extra "!lt9") | (refine Nat.lt_of_lt_of_le ?_ (Nat.le_refl _); k_extra "!lt9") | fail
        k_with "!item" => first | (k_here; (with_reducible show wpAny _ _ (subscriptTail _ _ (Value.ref _) (Value.int _ _)) _ _ _); k_dflt (refine' kim_list ?N ?m ?c ?d ?z ?f ?x ?_; (case N => k_asm); (case m => k_mem); (case c => rfl); (case d => rfl); (case z => omega); (case f => omega); (case x => (try simp only [Int.toNat_natCast]); first | assumption | rfl | exact List.getElem?_eq_getElem (by omega)); k_whole)) | (k_here; (with_reducible show wpAny _ _ (subscriptTail _ _ (Value.ref _) (Value.int _ _)) _ _ _); k_dflt (refine' kda_item (knd := PySem.intKind _ _) ?N ?m ?d (intKind_is _ _ _ _) ?v ?_; (case N => k_asm); (case d => assumption); (case m => k_mem); (case v => assumption); k_whole))
        k_with "!subscriptTail" => k_extra "!item"
        k_with "!subscriptTail Name Constant ref int" => k_extra "!item"
        k_with "!subscriptTail Name Name ref int" => k_extra "!item"
        k_with "!k_all" => first | exact ne_of_allLt (by assumption) | exact ne_of_allLt (And.right (by assumption)) | exact ne_of_allLt (And.right (And.right (by assumption)))
        k_with "!k_handed" => with_reducible assumption
        k_with "!k_all" => first | exact ne_of_allNe (by assumption) | exact ne_of_allNe (And.right (by assumption)) | exact ne_of_allNe (And.right (And.right (by assumption)))
        k_with "!call ref" => k_extra "call ref"
        k_with "!k_all" => first | exact ne_of_lts2 (by assumption) | (with_reducible assumption)
        k_with "!k_mem" => assumption
        k_with "!callWith ref" => (k_here; k_dflt (first | (refine' callWith_K ?k1 ?k2 ?_; (case k1 => k_asm); (case k2 => k_is); k_whole) | (refine' callWith_K0 ?k1 ?k2 ?_; (case k1 => k_in); (case k2 => k_is); k_whole) | (refine' callWith_M0 ?k1 ?k2 ?_; (case k1 => k_meth); (case k2 => k_is); k_whole; try dsimp only [List.nil_append, List.cons_append]) | (refine' callWith_M ?k1 ?k2 ?k3 ?k4 ?_; (case k1 => k_asm); (case k2 => k_asm); (case k3 => k_mem); (case k4 => k_is); k_whole) | (refine' callWith_F ?k1 ?_; (case k1 => exact FnAt.of (by k_asm) (by k_mem)); k_whole)))
        k_with "!exec For Name Call cons nil" => k_extra "exec For"
        k_with "!pyIter ref" => k_extra "pyIter ref"
        k_with "!revslice" => (k_here; (with_reducible show wpAny _ _ (subscriptTail _ (PySem.Expr.Slice none none (some _) _) (Value.ref _) (Value.ref _)) _ _ _); k_dflt (refine' krv_ints ?F ?N ?l ?k ?i ?_ ?s ?t ?z; (case F => k_asm); (case N => k_asm); (case l => exact L_isList (by k_asm) (by k_mem)); (case k => exact IsPart.int _ _); (case i => assumption); (case s => with_unfolding_all rfl); (case t => (intro _; with_unfolding_all rfl)); (case z => (rw [List.size_toArray, sizeLine_eq]; omega))); intro zqD zqws zqh zqF zqN zql1 zqhI zqhC; (have zqhW := IntsAre.length zqhI); (replace zql1 := allLt_of zql1); (try simp only [AllLt, and_true] at zql1))
        k_with "!subscriptTail Name Slice ref ref" => k_extra "!revslice"
        k_with "!eval Name" => (k_here; kc_free; k_dflt (refine' nameX_F ?N ?c ?m ?d ?_ ?a ?b; (case a => rfl); (case b => rfl); (case N => k_asm); (case c => rfl); (case m => k_mem); (case d => k_asm); k_whole))
        k_with "!exec Return some" => k_extra "exec Return some"
        k_with "!eval Dict" => (k_here; k_dflt (refine' kdn_eval (knd := PySem.intKind _ _) ?F ?N ?b ?a ?l ?e ?n ?_; (case F => k_asm); (case N => k_asm); (case b => exact Top.nolimit (by k_asm)); (case a => rfl); (case l => rfl); (case e => exact List.cons_ne_nil _ _); (case n => exact Nat.le_of_ble_eq_true rfl)); intro zqd zqh zqo zqF zqN zql1 zqlo zqhd; (try k_lt zql1))
        k_with "!call type:range" => ((with_reducible show wpAny _ _ (call _ [_]) _ _ _); (rename Fr _ _ _ _ => zqF); (rename News _ _ _ _ => zqN); (with_unfolding_all refine range1_rows zqF zqN ?_); intro zqh zqtk zqt1 zqu1 zqv1 zqhR zqF zqN zqka)
        k_with "!k_room" => ((try simp only [depth_under_make, depth_under_kw, depth_in1, depth_deeper, depth_caller]); (show _ < (1000 : Nat)); (try dsimp only); omega)
        k_with "!binaryOp Add ref ref" => (k_here; (with_reducible show wpAny _ _ (binaryOp _ (Value.ref _) (Value.ref _)) _ _ _); k_dflt (refine' add_my ?F ?N ?a ?b ?z ?_; (case F => k_asm); (case N => k_asm); (case a => k_mem); (case b => k_mem); (case z => ((try simp only [List.length_append, List.length_cons, List.length_nil]); omega)); k_whole); intro zqD zqh zqF zqN zql1; (try simp only [AllLt, and_true] at zql1))
        k_with "!k_mem" => exact List.mem_append_left _ (by assumption)
        k_with "!U2" => ((case B => assumption); (case F => k_asm); (case X => assumption); (case T => assumption); (case hf => exact rfl); (case hk => exact rfl); (case N => k_asm); (case U => k_updF); (case hdp => ((try dsimp only); omega)); (case hun => ((try dsimp only); omega)); k_whole)
        k_with "!call ref" => (k_here; (rename True => zqmark9); (with_reducible show wpAny _ _ (call (Value.ref 327) _) _ _ _); k_dflt (refine' use_upd (take_spec ?h1 ?h2 ?h3 ?h4) ?B ?F ?X ?T ?hf ?hk ?N ?U ?hdp ?hun ?_; (case h1 => omega); (case h2 => omega); (case h3 => assumption); (case h4 => assumption); k_extra "!U2"); rintro zqv zqo zqh zqtk zqF zqN ⟨zqr, zqt, zqx, zqtx, zqy, zqty, zqn, zqev, zqr0, zqr1, zqy0, zqy1, zqeo⟩; subst zqev; subst zqeo; (try dsimp only))
        k_with "!call ref" => (k_here; (rename True => zqmark9); (with_reducible show wpAny _ _ (call (Value.ref 334) _) _ _ _); k_dflt (refine' use_one ?h1 ?h2 ?h3 ?h4 ?h5 ?h6 ?B ?F ?X ?T ?hf ?hk ?N ?U ?hdp ?hun ?_; (case B => assumption); (case F => k_asm); (case X => assumption); (case T => assumption); (case hf => exact rfl); (case hk => exact rfl); (case N => k_asm); (case h6 => k_mem); (case U => k_updF); (case h1 => (first | ((try simp only [List.length_append, List.length_cons, List.length_nil]); omega) | ((rename (IntsAre _ (List.drop _ _)) => zqhI9); (have zqhW9 := IntsAre.length zqhI9); (simp only [natInts, List.map_cons, List.drop_succ_cons, List.drop_zero, List.length_map] at zqhW9); omega))); (case h2 => (first | ((try simp only [List.length_append, List.length_cons, List.length_nil]); omega) | ((rename (IntsAre _ (List.drop _ _)) => zqhI9); (have zqhW9 := IntsAre.length zqhI9); (simp only [natInts, List.map_cons, List.drop_succ_cons, List.drop_zero, List.length_map] at zqhW9); omega))); (case h3 => assumption); (case h4 => assumption); (case h5 => k_ne); (case hdp => ((try dsimp only); omega)); (case hun => ((try dsimp only); omega)); k_whole); intro zqv zqx zqtx zqy zqty zqn zqh zqtk zqF zqN zqy0 zqy1 zqhv)
        k_with "!setItem ref int" => (k_here; (rename True => zqmark7); k_dflt (refine' kda_set (knd := PySem.intKind _ _) ?F ?N ?U ?d (intKind_is _ _ _ _) ?z ?_; (case F => k_asm); (case N => k_asm); (case U => k_updF); (case d => assumption); (case z => (rw [sizeLine_eq]; omega)); k_whole); intro zqh zqo zqF zqN zqhd; (try dsimp only at zqN))
        k_steps
        rename Fr _ _ _ _ => F3
        rename News _ _ _ _ => N3
        rename (_ ∧ _ ∧ _ ∧ AllLt _ R) => l9
        refine ⟨rfl, _, _, _, [], 0, [(_, listOf #[] 0)], rfl, F3, nsub N3 fun q hq => ?_, .inr (.head _), ?_, fun q hq p hp => ?_⟩
        · simp only [List.cons_append, List.nil_append, List.mem_cons, List.mem_append, List.not_mem_nil, or_false] at hq ⊢
          rcases hq with h | h | h | h | h
          · exact .inr (.inl h)
          · exact .inr (.inr (.inl h))
          · exact .inr (.inr (.inr (.inl h)))
          · exact .inr (.inr (.inr (.inr h)))
          · exact .inl h
        · rw [show C.shape.up none = [] from rfl]; exact .nil
        · rw [List.mem_singleton.mp hq]
          simp only [List.cons_append, List.nil_append, List.mem_cons] at hp
          rcases hp with rfl | rfl | rfl | hp
          · exact l9.1
          · exact l9.2.1
          · exact l9.2.2.1
          · exact ktn_ltOf l9.2.2.2 p hp
      | some jp =>
        obtain ⟨tp, e⟩ := hpar
        subst e
        k_with_none
        k_with "!c1" => first | assumption | exact And.right (by k_extra "!c2") | fail
        k_with "!c2" => first | assumption | exact And.right (by k_extra "!c3") | fail
        k_with "!c3" => first | assumption | exact And.right (by k_extra "!c4") | fail
        k_with "!c4" => first | assumption | exact And.right (by k_extra "!c5") | fail
        k_with "!c5" => first | assumption | exact And.right (by k_extra "!c6") | fail
        k_with "!c6" => first | assumption | exact And.right (by k_extra "!c7") | fail
        k_with "!c7" => first | assumption | exact And.right (by k_extra "!c8") | fail
        k_with "!c8" => assumption
        k_with "!lt9" => with_reducible first | exact And.left (by k_extra "!c1") | exact And.right (by k_extra "!c1") | fail
        k_with "!omega" => with_reducible first | exact lt_dp (by assumption) (by with_unfolding_all exact rfl) | exact lt_un (by assumption) (by with_unfolding_all exact rfl) | assumption | exact Ne.symm (by assumption) | exact Nat.ne_of_lt (by assumption) | exact Nat.ne_of_gt (by assumption) | exact le_big (by assumption) (by with_unfolding_all exact rfl) | exact le_big2 (by assumption) (by with_unfolding_all exact rfl) | exact lt_big (by assumption) (by with_unfolding_all exact rfl) | exact Nat.le_of_ble_eq_true (by with_unfolding_all exact rfl) | exact Nat.ne_of_gt (lt_s (by assumption)) | exact Nat.ne_of_gt (lt_s (lt_s (by assumption))) | exact Nat.ne_of_gt (lt_s (lt_s (lt_s (by assumption)))) | exact Nat.ne_of_lt (by k_extra "!lt9") | exact Nat.ne_of_gt (by k_extra "!lt9") | (refine Nat.lt_of_lt_of_le ?_ (Nat.le_refl _); k_extra "!lt9") | fail
        k_with "!item" => first | (k_here; (with_reducible show wpAny _ _ (subscriptTail _ _ (Value.ref _) (Value.int _ _)) _ _ _); k_dflt (refine' kim_list ?N ?m ?c ?d ?z ?f ?x ?_; (case N => k_asm); (case m => k_mem); (case c => rfl); (case d => rfl); (case z => omega); (case f => omega); (case x => (try simp only [Int.toNat_natCast]); first | assumption | rfl | exact List.getElem?_eq_getElem (by omega)); k_whole)) | (k_here; (with_reducible show wpAny _ _ (subscriptTail _ _ (Value.ref _) (Value.int _ _)) _ _ _); k_dflt (refine' kda_item (knd := PySem.intKind _ _) ?N ?m ?d (intKind_is _ _ _ _) ?v ?_; (case N => k_asm); (case d => assumption); (case m => k_mem); (case v => assumption); k_whole))
        k_with "!subscriptTail" => k_extra "!item"
        k_with "!subscriptTail Name Constant ref int" => k_extra "!item"
        k_with "!subscriptTail Name Name ref int" => k_extra "!item"
        k_with "!k_all" => first | exact ne_of_allLt (by assumption) | exact ne_of_allLt (And.right (by assumption)) | exact ne_of_allLt (And.right (And.right (by assumption)))
        k_with "!k_handed" => with_reducible assumption
        k_with "!k_all" => first | exact ne_of_allNe (by assumption) | exact ne_of_allNe (And.right (by assumption)) | exact ne_of_allNe (And.right (And.right (by assumption)))
        k_with "!call ref" => k_extra "call ref"
        k_with "!k_all" => first | exact ne_of_lts2 (by assumption) | (with_reducible assumption)
        k_with "!k_mem" => assumption
        k_with "!callWith ref" => (k_here; k_dflt (first | (refine' callWith_K ?k1 ?k2 ?_; (case k1 => k_asm); (case k2 => k_is); k_whole) | (refine' callWith_K0 ?k1 ?k2 ?_; (case k1 => k_in); (case k2 => k_is); k_whole) | (refine' callWith_M0 ?k1 ?k2 ?_; (case k1 => k_meth); (case k2 => k_is); k_whole; try dsimp only [List.nil_append, List.cons_append]) | (refine' callWith_M ?k1 ?k2 ?k3 ?k4 ?_; (case k1 => k_asm); (case k2 => k_asm); (case k3 => k_mem); (case k4 => k_is); k_whole) | (refine' callWith_F ?k1 ?_; (case k1 => exact FnAt.of (by k_asm) (by k_mem)); k_whole)))
        k_with "!exec For Name Call cons nil" => k_extra "exec For"
        k_with "!pyIter ref" => k_extra "pyIter ref"
        k_with "!revslice" => (k_here; (with_reducible show wpAny _ _ (subscriptTail _ (PySem.Expr.Slice none none (some _) _) (Value.ref _) (Value.ref _)) _ _ _); k_dflt (refine' krv_ints ?F ?N ?l ?k ?i ?_ ?s ?t ?z; (case F => k_asm); (case N => k_asm); (case l => exact L_isList (by k_asm) (by k_mem)); (case k => exact IsPart.int _ _); (case i => assumption); (case s => with_unfolding_all rfl); (case t => (intro _; with_unfolding_all rfl)); (case z => (rw [List.size_toArray, sizeLine_eq]; omega))); intro zqD zqws zqh zqF zqN zql1 zqhI zqhC; (have zqhW := IntsAre.length zqhI); (replace zql1 := allLt_of zql1); (try simp only [AllLt, and_true] at zql1))
        k_with "!subscriptTail Name Slice ref ref" => k_extra "!revslice"
        k_with "!eval Name" => (k_here; kc_free; k_dflt (refine' nameX_F ?N ?c ?m ?d ?_ ?a ?b; (case a => rfl); (case b => rfl); (case N => k_asm); (case c => rfl); (case m => k_mem); (case d => k_asm); k_whole))
        k_with "!exec Return some" => k_extra "exec Return some"
        k_with "!eval Dict" => (k_here; k_dflt (refine' kdn_eval (knd := PySem.intKind _ _) ?F ?N ?b ?a ?l ?e ?n ?_; (case F => k_asm); (case N => k_asm); (case b => exact Top.nolimit (by k_asm)); (case a => rfl); (case l => rfl); (case e => exact List.cons_ne_nil _ _); (case n => exact Nat.le_of_ble_eq_true rfl)); intro zqd zqh zqo zqF zqN zql1 zqlo zqhd; (try k_lt zql1))
        k_with "!call type:range" => ((with_reducible show wpAny _ _ (call _ [_]) _ _ _); (rename Fr _ _ _ _ => zqF); (rename News _ _ _ _ => zqN); (with_unfolding_all refine range1_rows zqF zqN ?_); intro zqh zqtk zqt1 zqu1 zqv1 zqhR zqF zqN zqka)
        k_with "!k_room" => ((try simp only [depth_under_make, depth_under_kw, depth_in1, depth_deeper, depth_caller]); (show _ < (1000 : Nat)); (try dsimp only); omega)
        k_with "!binaryOp Add ref ref" => (k_here; (with_reducible show wpAny _ _ (binaryOp _ (Value.ref _) (Value.ref _)) _ _ _); k_dflt (refine' add_my ?F ?N ?a ?b ?z ?_; (case F => k_asm); (case N => k_asm); (case a => k_mem); (case b => k_mem); (case z => ((try simp only [List.length_append, List.length_cons, List.length_nil]); omega)); k_whole); intro zqD zqh zqF zqN zql1; (try simp only [AllLt, and_true] at zql1))
        k_with "!k_mem" => exact List.mem_append_left _ (by assumption)
        k_with "!U2" => ((case B => assumption); (case F => k_asm); (case X => assumption); (case T => assumption); (case hf => exact rfl); (case hk => exact rfl); (case N => k_asm); (case U => k_updF); (case hdp => ((try dsimp only); omega)); (case hun => ((try dsimp only); omega)); k_whole)
        k_with "!call ref" => (k_here; (rename True => zqmark9); (with_reducible show wpAny _ _ (call (Value.ref 327) _) _ _ _); k_dflt (refine' use_upd (take_spec ?h1 ?h2 ?h3 ?h4) ?B ?F ?X ?T ?hf ?hk ?N ?U ?hdp ?hun ?_; (case h1 => omega); (case h2 => omega); (case h3 => assumption); (case h4 => assumption); k_extra "!U2"); rintro zqv zqo zqh zqtk zqF zqN ⟨zqr, zqt, zqx, zqtx, zqy, zqty, zqn, zqev, zqr0, zqr1, zqy0, zqy1, zqeo⟩; subst zqev; subst zqeo; (try dsimp only))
        k_with "!call ref" => (k_here; (rename True => zqmark9); (with_reducible show wpAny _ _ (call (Value.ref 334) _) _ _ _); k_dflt (refine' use_one ?h1 ?h2 ?h3 ?h4 ?h5 ?h6 ?B ?F ?X ?T ?hf ?hk ?N ?U ?hdp ?hun ?_; (case B => assumption); (case F => k_asm); (case X => assumption); (case T => assumption); (case hf => exact rfl); (case hk => exact rfl); (case N => k_asm); (case h6 => k_mem); (case U => k_updF); (case h1 => (first | ((try simp only [List.length_append, List.length_cons, List.length_nil]); omega) | ((rename (IntsAre _ (List.drop _ _)) => zqhI9); (have zqhW9 := IntsAre.length zqhI9); (simp only [natInts, List.map_cons, List.drop_succ_cons, List.drop_zero, List.length_map] at zqhW9); omega))); (case h2 => (first | ((try simp only [List.length_append, List.length_cons, List.length_nil]); omega) | ((rename (IntsAre _ (List.drop _ _)) => zqhI9); (have zqhW9 := IntsAre.length zqhI9); (simp only [natInts, List.map_cons, List.drop_succ_cons, List.drop_zero, List.length_map] at zqhW9); omega))); (case h3 => assumption); (case h4 => assumption); (case h5 => k_ne); (case hdp => ((try dsimp only); omega)); (case hun => ((try dsimp only); omega)); k_whole); intro zqv zqx zqtx zqy zqty zqn zqh zqtk zqF zqN zqy0 zqy1 zqhv)
        k_with "!setItem ref int" => (k_here; (rename True => zqmark7); k_dflt (refine' kda_set (knd := PySem.intKind _ _) ?F ?N ?U ?d (intKind_is _ _ _ _) ?z ?_; (case F => k_asm); (case N => k_asm); (case U => k_updF); (case d => assumption); (case z => (rw [sizeLine_eq]; omega)); k_whole); intro zqh zqo zqF zqN zqhd; (try dsimp only at zqN))
        have hjn : jp < C.n := by
          rcases List.mem_cons.mp (hpo jp rfl) with e | e
          · rw [e, ok.n]; omega
          · exact (ok.rk jp e).1
        obtain ⟨E, hE, ⟨tkk, hk9⟩, hpv⟩ := ok.rows.ent jp hjn
        have hdict := ok.rows.dict
        have hv : valueAt (kvsFrom 0 ρ.ents) (jp : Int) = some (.ref E.e) := by simpa using kvsFrom_value ρ.ents 0 jp hE
        have hEt : ∀ q ∈ E.led, q ∈ R := fun q hq => by rw [hR]; exact List.mem_append_left _ (List.mem_append_right _ (List.mem_flatMap.mpr ⟨E, List.mem_of_getElem? hE, hq⟩))
        have hE1 : (E.e, listOf #[E.vk, .ref E.p] E.ee) ∈ R := hEt _ (.head _)
        have hE2 : (E.p, listOf E.pv.toArray E.pe) ∈ ρ.tail := List.mem_flatMap.mpr ⟨E, List.mem_of_getElem? hE, .tail _ (.head _)⟩
        have hE3 : (E.p, listOf E.pv.toArray E.pe) ∈ R := hEt _ (.tail _ (.head _))
        k_steps
        rename Fr _ _ _ _ => F3
        rename News _ _ _ _ => N3
        refine ⟨rfl, _, _, _, E.pv, _, [], rfl, F3, by simpa using N3, .inl hE2, hpv, fun q hq => nomatch hq⟩
    clear F1 N2
    rintro s' ⟨h', tk', pa, pv, pe, EX, rfl, F4, N4, hpa, hpv, hfresh⟩
    obtain ⟨REST, hREST⟩ : ∃ REST, REST = ρ.tail ++ own ++ EX := ⟨_, rfl⟩
    have hRE : R ++ EX = τ.led w ++ REST := by rw [hR, hREST]; simp only [List.append_assoc]
    have hoT : ∀ q ∈ REST, q.1 ∉ (τ.led w).map (·.1) := fun q hq hm => by
      rw [hREST] at hq
      rcases List.mem_append.mp hq with hq | hq
      · rcases List.mem_append.mp hq with hq | hq
        · exact ok.ap q hq hm
        · obtain ⟨p, hp, e⟩ := List.mem_map.mp hm
          exact hoff q hq p (.tail _ (.tail _ (.tail _ (List.mem_append_left _ hp)))) e.symm
      · obtain ⟨p, hp, e⟩ := List.mem_map.mp hm
        have := hfresh q hq p (List.mem_append_right _ (by rw [hR]; exact List.mem_append_left _ (List.mem_append_left _ hp)))
        rw [e] at this
        exact Nat.lt_irrefl _ this
    have hX : ∀ a, (∀ q ∈ R, q.1 ≠ a) → (∀ q ∈ EX, q.1 ≠ a) → ∀ q ∈ REST, q.1 ≠ a := fun a h1 h2 q hq => by
      rw [hREST] at hq
      rcases List.mem_append.mp hq with hq | hq
      · refine h1 q ?_
        rw [hR]
        rcases List.mem_append.mp hq with hq | hq
        · exact List.mem_append_left _ (List.mem_append_right _ hq)
        · exact List.mem_append_right _ hq
      · exact h2 q hq
    have oRs := hX _ hRs fun q hq => Nat.ne_of_gt (hfresh q hq _ (.head _))
    have oRi := hX _ hRi fun q hq => Nat.ne_of_gt (hfresh q hq _ (.tail _ (.head _)))
    have oRD := hX _ hRD fun q hq => Nat.ne_of_gt (hfresh q hq _ (.tail _ (.tail _ (.head _))))
    rw [hRE] at N4
    have N5 := nsub N4 (l := τ.led w ++ _ :: _ :: _ :: REST) fun q hq => by
      simp only [List.cons_append, List.nil_append, List.mem_cons, List.mem_append] at hq ⊢
      rcases hq with h | h | h | h | h
      · exact .inr (.inr (.inr (.inl h)))
      · exact .inl h
      · exact .inr (.inl h)
      · exact .inr (.inr (.inl h))
      · exact .inr (.inr (.inr (.inr h)))
    clear N4 hX hfresh
    dsimp only
    refine wpAny_execs_cons ?_
    have H := ok.st
    have hlenT : τ.rows.length < 500 := by rw [H.len]; exact Nat.lt_trans H.small (by decide)
    have hn2 := ok.n
    have hz9 : C.n + 1 < 100 := by omega
    have hT1 : (τ.aT, instObj 309 τ.dT) ∈ τ.led w := .head _
    have hT2 : (τ.dT, treeDict w τ.aR τ.t τ.e₁) ∈ τ.led w := .tail _ (.head _)
    have hcan : ∀ j, o = some j → j < C.n ∧ (isRt (C.kind j) = true ∨ C.kind j = Str.ofString "element") := fun j e => by
      rcases List.mem_cons.mp (hpo j e) with q | q
      · rw [q]; exact ⟨by omega, .inl ok.rt⟩
      · exact ⟨(ok.rk j q).1, .inr (ok.rk j q).2⟩
    have hap5 : ∀ S I : Obj, ∀ q ∈ (src, S) :: (inr, I) :: (ρ.D, ρ.od) :: REST, q.1 ∉ (τ.led w).map (·.1) := fun S I q hq hm => by
      obtain ⟨p, hp, e⟩ := List.mem_map.mp hm
      simp only [List.mem_cons] at hq
      rcases hq with rfl | rfl | rfl | hq
      · exact ok.os p (List.mem_append_left _ hp) e
      · exact ok.oi p (List.mem_append_left _ hp) e
      · exact ok.oD p (List.mem_append_left _ hp) e
      · exact hoT q hq hm
    have hpaR : (pa, listOf pv.toArray pe) ∈ REST := by
      rw [hREST]
      rcases hpa with h | h
      · exact List.mem_append_left _ (List.mem_append_left _ h)
      · exact List.mem_append_right _ h
    obtain ⟨hjn, hje⟩ := ok.rk jo hjo
    obtain ⟨P, hP, rP⟩ := H.row jo hjn
    obtain ⟨tkp, hkp⟩ := rP.k
    rw [hje] at hkp
    obtain ⟨Eo, hEo, ⟨tko, hko⟩, hpvo⟩ := ok.rows.ent jo hjn
    have hdict := ok.rows.dict
    have hvo : valueAt (kvsFrom 0 ρ.ents) (jo : Int) = some (.ref Eo.e) := by simpa using kvsFrom_value ρ.ents 0 jo hEo
    have hEot : ∀ q ∈ Eo.led, q ∈ REST := fun q hq => by rw [hREST]; exact List.mem_append_left _ (List.mem_append_left _ (List.mem_flatMap.mpr ⟨Eo, List.mem_of_getElem? hEo, hq⟩))
    refine cutNode (C := C) (i := i) N5 ?ways ?_
    case ways =>
      k_with "call ref" =>
        refine Hold.out ?_
      k_steps
      · refine ⟨?_⟩
        rename Fr _ _ _ _ => F6
        rename News _ _ _ _ => N6
        refine use_tree (addelement_spec (τ := τ) (o := o) hpar (H.can hcan) hlenT H.nd) B F6 X T rfl rfl N6 (hap5 _ _) (by omega) (by omega) ?_
        intro v2 τ2 h2 tk2 F7 N7 ap2 hA2
        obtain ⟨⟨t2, ev2⟩, H2⟩ := H.added hA2 hz9 hcan (.inl (by decide)) noP_e noK_e
        have ev2' : v2 = .int (C.n : Int) t2 := ev2
        clear ev2
        subst ev2'
        have e2 := hA2.aT
        have O2 := nodeOk_more (t := t2) ok e2 (H2.mono (Nat.le_succ i)) (fun j e => (hcan j e).1) hpaR hpv ap2
        have ap3 : ∀ q ∈ τ2.led w ++ REST, q.1 ≠ inr := fun q hq => (List.mem_append.mp hq).elim (O2.oi q) (oRi q)
        replace N7 := rearr N7
        clear F6 N6
        k_steps
        rename Fr _ _ _ _ => F8
        rename News _ _ _ _ => N8
        simp only [List.push_toArray] at N8
        exact ⟨rfl, _, _, _, _, _, _, τ2, _, o, _, _, pa, pv, pe, rfl, F8, nsub N8 (fun q hq => .tail _ hq), ⟨rfl, rfl, rfl, rfl, rfl, rfl, rfl⟩, O2⟩
      · refine ⟨?_⟩
        rename Fr _ _ _ _ => F6
        rename News _ _ _ _ => N6
        refine use_tree (addtext_spec (τ := τ) (o := o) hpar (H.can hcan) hlenT H.nd) B F6 X T rfl rfl N6 (hap5 _ _) (by omega) (by omega) ?_
        intro v2 τ2 h2 tk2 F7 N7 ap2 hA2
        obtain ⟨⟨t2, ev2⟩, H2⟩ := H.added hA2 hz9 hcan (.inl (by decide)) noP_empty noK_empty
        have ev2' : v2 = .int (C.n : Int) t2 := ev2
        clear ev2
        subst ev2'
        have O2 := nodeOk_same ok hA2.aT (H2.mono (Nat.le_succ i)) (fun j e => (hcan j e).1) hpaR hpv ap2
        replace N7 := rearr N7
        clear F6 N6
        k_steps
        rename Fr _ _ _ _ => F8
        rename News _ _ _ _ => N8
        exact ⟨rfl, _, _, _, _, _, _, τ2, _, o, _, _, pa, pv, pe, rfl, F8, nsub N8 (fun q hq => .tail _ hq), ⟨rfl, rfl, rfl, rfl, rfl, rfl, rfl⟩, O2⟩
      · refine ⟨?_⟩
        rename Fr _ _ _ _ => F6
        rename News _ _ _ _ => N6
        refine use_tree (addcomment_spec (τ := τ) (o := o) hpar (H.can hcan) hlenT H.nd) B F6 X T rfl rfl N6 (hap5 _ _) (by omega) (by omega) ?_
        intro v2 τ2 h2 tk2 F7 N7 ap2 hA2
        obtain ⟨⟨t2, ev2⟩, H2⟩ := H.added hA2 hz9 hcan (.inl (by decide)) noP_empty noK_empty
        have ev2' : v2 = .int (C.n : Int) t2 := ev2
        clear ev2
        subst ev2'
        have O2 := nodeOk_same ok hA2.aT (H2.mono (Nat.le_succ i)) (fun j e => (hcan j e).1) hpaR hpv ap2
        replace N7 := rearr N7
        clear F6 N6
        k_steps
        rename Fr _ _ _ _ => F8
        rename News _ _ _ _ => N8
        exact ⟨rfl, _, _, _, _, _, _, τ2, _, o, _, _, pa, pv, pe, rfl, F8, nsub N8 (fun q hq => .tail _ hq), ⟨rfl, rfl, rfl, rfl, rfl, rfl, rfl⟩, O2⟩
      · refine ⟨?_⟩
        rename Fr _ _ _ _ => F6
        rename News _ _ _ _ => N6
        refine use_tree (addinstruction_spec (τ := τ) (o := o) hpar (H.can hcan) hlenT H.nd) B F6 X T rfl rfl N6 (hap5 _ _) (by omega) (by omega) ?_
        intro v2 τ2 h2 tk2 F7 N7 ap2 hA2
        obtain ⟨⟨t2, ev2⟩, H2⟩ := H.added hA2 hz9 hcan (.inl (by decide)) noP_t noK_t
        have ev2' : v2 = .int (C.n : Int) t2 := ev2
        clear ev2
        subst ev2'
        have O2 := nodeOk_same ok hA2.aT (H2.mono (Nat.le_succ i)) (fun j e => (hcan j e).1) hpaR hpv ap2
        replace N7 := rearr N7
        clear F6 N6
        k_steps
        rename Fr _ _ _ _ => F8
        rename News _ _ _ _ => N8
        exact ⟨rfl, _, _, _, _, _, _, τ2, _, o, _, _, pa, pv, pe, rfl, F8, nsub N8 (fun q hq => .tail _ hq), ⟨rfl, rfl, rfl, rfl, rfl, rfl, rfl⟩, O2⟩
      · refine ⟨?_⟩
        rename Fr _ _ _ _ => F6
        rename News _ _ _ _ => N6
        refine use_tree (setattr_spec (τ := τ) (k2 := kName i) (k4 := kName i) hP hkp hlenT (ints_short H rP.as) (hat_as H hin rP) H.nd) B F6 X T rfl rfl N6 (hap5 _ _) (by omega) (by omega) ?_
        intro v2 τ2 h2 tk2 F7 N7 ap2 hA2
        obtain ⟨⟨t2, ev2⟩, H2⟩ := (H.mono (Nat.le_succ i)).addedA hA2 hz9 hjn hje (by decide) (noP_k1 hin) (noK_k1 hin)
        have ev2' : v2 = .int (C.n : Int) t2 := ev2
        clear ev2
        subst ev2'
        have O2 := nodeOk_same ok hA2.aT H2 (fun j e => by cases e; exact hjn) (hEot _ (.tail _ (.head _))) hpvo ap2
        replace N7 := rearr N7
        clear F6 N6
        have hEo1 : (Eo.e, listOf #[Eo.vk, .ref Eo.p] Eo.ee) ∈ τ2.led w ++ REST := List.mem_append_right _ (hEot _ (.head _))
        k_steps
        rename Fr _ _ _ _ => F8
        rename News _ _ _ _ => N8
        exact ⟨rfl, _, _, _, _, _, _, τ2, _, _, _, _, _, _, _, rfl, F8, nsub N8 (fun q hq => .tail _ hq), ⟨rfl, rfl, rfl, rfl, rfl, rfl, rfl⟩, O2⟩
      · refine ⟨?_⟩
        rename Fr _ _ _ _ => F6
        rename News _ _ _ _ => N6
        refine use_tree (addns_spec (τ := τ) (k2 := pName i) hP hkp hlenT (ints_short H rP.ns) (hat_ns H hin rP) H.nd) B F6 X T rfl rfl N6 (hap5 _ _) (by omega) (by omega) ?_
        intro v2 τ2 h2 tk2 F7 N7 ap2 hA2
        obtain ⟨⟨t2, ev2⟩, H2⟩ := (H.mono (Nat.le_succ i)).addedN hA2 hz9 hjn hje (by decide) (noP_p1 hin) (noK_p1 hin)
        have ev2' : v2 = .int (C.n : Int) t2 := ev2
        clear ev2
        subst ev2'
        have O2 := nodeOk_same ok hA2.aT H2 (fun j e => by cases e; exact hjn) (hEot _ (.tail _ (.head _))) hpvo ap2
        replace N7 := rearr N7
        clear F6 N6
        have hEo1 : (Eo.e, listOf #[Eo.vk, .ref Eo.p] Eo.ee) ∈ τ2.led w ++ REST := List.mem_append_right _ (hEot _ (.head _))
        k_steps
        rename Fr _ _ _ _ => F8
        rename News _ _ _ _ => N8
        exact ⟨rfl, _, _, _, _, _, _, τ2, _, _, _, _, _, _, _, rfl, F8, nsub N8 (fun q hq => .tail _ hq), ⟨rfl, rfl, rfl, rfl, rfl, rfl, rfl⟩, O2⟩
    clear F4 H hP rP hkp hEo hko hpvo hdict hvo hEot hpaR hpv hpa hpar hpo hjo hjn hje hcan hap5 hT1 hT2 hoT oRs oRi
    rintro s' ⟨h', tk', m', us', c', r', τ', kd, o', tk1, tn, pa, pv, pe, rfl, F9, N9, ⟨p1, p2, p3, p4, p5, p6, p7⟩, O9⟩
    have F10 := fr_pins (l := [(Str.ofString "source", _), (Str.ofString "tree", _), (Str.ofString "rows", _), (Str.ofString "inner", _), (Str.ofString "node", _), (Str.ofString "kind", _), (Str.ofString "path", _)]) F9 (allC p1 (allC p2 (allC p3 (allC p4 (allC p5 (all2 p6 p7))))))
    clear F9 p1 p2 p3 p4 p5 p6 p7
    have hpvl : pv.length < 500 := up_short ok.st.of O9.hb O9.hpv
    have oD9 : ∀ q ∈ τ'.led w ++ REST, q.1 ≠ ρ.D := fun q hq => (List.mem_append.mp hq).elim (O9.oD q) (oRD q)
    have hpa9 : (pa, listOf pv.toArray pe) ∈ τ'.led w ++ REST := List.mem_append_right _ O9.hpa
    have hdict := ok.rows.dict
    have hkl : (kvsFrom 0 ρ.ents).length = C.n := by rw [kvsFrom_len]; exact ok.rows.len
    have mark7 : True := trivial
    k_with_none
    k_with "!c1" => first | assumption | exact And.right (by k_extra "!c2") | fail
    k_with "!c2" => first | assumption | exact And.right (by k_extra "!c3") | fail
    k_with "!c3" => first | assumption | exact And.right (by k_extra "!c4") | fail
    k_with "!c4" => first | assumption | exact And.right (by k_extra "!c5") | fail
    k_with "!c5" => first | assumption | exact And.right (by k_extra "!c6") | fail
    k_with "!c6" => first | assumption | exact And.right (by k_extra "!c7") | fail
    k_with "!c7" => first | assumption | exact And.right (by k_extra "!c8") | fail
    k_with "!c8" => assumption
    k_with "!lt9" => with_reducible first | exact And.left (by k_extra "!c1") | exact And.right (by k_extra "!c1") | fail
    k_with "!omega" => with_reducible first | exact lt_dp (by assumption) (by with_unfolding_all exact rfl) | exact lt_un (by assumption) (by with_unfolding_all exact rfl) | assumption | exact Ne.symm (by assumption) | exact Nat.ne_of_lt (by assumption) | exact Nat.ne_of_gt (by assumption) | exact le_big (by assumption) (by with_unfolding_all exact rfl) | exact le_big2 (by assumption) (by with_unfolding_all exact rfl) | exact lt_big (by assumption) (by with_unfolding_all exact rfl) | exact Nat.le_of_ble_eq_true (by with_unfolding_all exact rfl) | exact Nat.ne_of_gt (lt_s (by assumption)) | exact Nat.ne_of_gt (lt_s (lt_s (by assumption))) | exact Nat.ne_of_gt (lt_s (lt_s (lt_s (by assumption)))) | exact Nat.ne_of_lt (by k_extra "!lt9") | exact Nat.ne_of_gt (by k_extra "!lt9") | (refine Nat.lt_of_lt_of_le ?_ (Nat.le_refl _); k_extra "!lt9") | fail
    k_with "!item" => first | (k_here; (with_reducible show wpAny _ _ (subscriptTail _ _ (Value.ref _) (Value.int _ _)) _ _ _); k_dflt (refine' kim_list ?N ?m ?c ?d ?z ?f ?x ?_; (case N => k_asm); (case m => k_mem); (case c => rfl); (case d => rfl); (case z => omega); (case f => omega); (case x => (try simp only [Int.toNat_natCast]); first | assumption | rfl | exact List.getElem?_eq_getElem (by omega)); k_whole)) | (k_here; (with_reducible show wpAny _ _ (subscriptTail _ _ (Value.ref _) (Value.int _ _)) _ _ _); k_dflt (refine' kda_item (knd := PySem.intKind _ _) ?N ?m ?d (intKind_is _ _ _ _) ?v ?_; (case N => k_asm); (case d => assumption); (case m => k_mem); (case v => assumption); k_whole))
    k_with "!subscriptTail" => k_extra "!item"
    k_with "!subscriptTail Name Constant ref int" => k_extra "!item"
    k_with "!subscriptTail Name Name ref int" => k_extra "!item"
    k_with "!k_all" => first | exact ne_of_allLt (by assumption) | exact ne_of_allLt (And.right (by assumption)) | exact ne_of_allLt (And.right (And.right (by assumption)))
    k_with "!k_handed" => with_reducible assumption
    k_with "!k_all" => first | exact ne_of_allNe (by assumption) | exact ne_of_allNe (And.right (by assumption)) | exact ne_of_allNe (And.right (And.right (by assumption)))
    k_with "!call ref" => k_extra "call ref"
    k_with "!k_all" => first | exact ne_of_lts2 (by assumption) | (with_reducible assumption)
    k_with "!k_mem" => assumption
    k_with "!callWith ref" => (k_here; k_dflt (first | (refine' callWith_K ?k1 ?k2 ?_; (case k1 => k_asm); (case k2 => k_is); k_whole) | (refine' callWith_K0 ?k1 ?k2 ?_; (case k1 => k_in); (case k2 => k_is); k_whole) | (refine' callWith_M0 ?k1 ?k2 ?_; (case k1 => k_meth); (case k2 => k_is); k_whole; try dsimp only [List.nil_append, List.cons_append]) | (refine' callWith_M ?k1 ?k2 ?k3 ?k4 ?_; (case k1 => k_asm); (case k2 => k_asm); (case k3 => k_mem); (case k4 => k_is); k_whole) | (refine' callWith_F ?k1 ?_; (case k1 => exact FnAt.of (by k_asm) (by k_mem)); k_whole)))
    k_with "!exec For Name Call cons nil" => k_extra "exec For"
    k_with "!pyIter ref" => k_extra "pyIter ref"
    k_with "!revslice" => (k_here; (with_reducible show wpAny _ _ (subscriptTail _ (PySem.Expr.Slice none none (some _) _) (Value.ref _) (Value.ref _)) _ _ _); k_dflt (refine' krv_ints ?F ?N ?l ?k ?i ?_ ?s ?t ?z; (case F => k_asm); (case N => k_asm); (case l => exact L_isList (by k_asm) (by k_mem)); (case k => exact IsPart.int _ _); (case i => assumption); (case s => with_unfolding_all rfl); (case t => (intro _; with_unfolding_all rfl)); (case z => (rw [List.size_toArray, sizeLine_eq]; omega))); intro zqD zqws zqh zqF zqN zql1 zqhI zqhC; (have zqhW := IntsAre.length zqhI); (replace zql1 := allLt_of zql1); (try simp only [AllLt, and_true] at zql1))
    k_with "!subscriptTail Name Slice ref ref" => k_extra "!revslice"
    k_with "!eval Name" => (k_here; kc_free; k_dflt (refine' nameX_F ?N ?c ?m ?d ?_ ?a ?b; (case a => rfl); (case b => rfl); (case N => k_asm); (case c => rfl); (case m => k_mem); (case d => k_asm); k_whole))
    k_with "!exec Return some" => k_extra "exec Return some"
    k_with "!eval Dict" => (k_here; k_dflt (refine' kdn_eval (knd := PySem.intKind _ _) ?F ?N ?b ?a ?l ?e ?n ?_; (case F => k_asm); (case N => k_asm); (case b => exact Top.nolimit (by k_asm)); (case a => rfl); (case l => rfl); (case e => exact List.cons_ne_nil _ _); (case n => exact Nat.le_of_ble_eq_true rfl)); intro zqd zqh zqo zqF zqN zql1 zqlo zqhd; (try k_lt zql1))
    k_with "!call type:range" => ((with_reducible show wpAny _ _ (call _ [_]) _ _ _); (rename Fr _ _ _ _ => zqF); (rename News _ _ _ _ => zqN); (with_unfolding_all refine range1_rows zqF zqN ?_); intro zqh zqtk zqt1 zqu1 zqv1 zqhR zqF zqN zqka)
    k_with "!k_room" => ((try simp only [depth_under_make, depth_under_kw, depth_in1, depth_deeper, depth_caller]); (show _ < (1000 : Nat)); (try dsimp only); omega)
    k_with "!binaryOp Add ref ref" => (k_here; (with_reducible show wpAny _ _ (binaryOp _ (Value.ref _) (Value.ref _)) _ _ _); k_dflt (refine' add_my ?F ?N ?a ?b ?z ?_; (case F => k_asm); (case N => k_asm); (case a => k_mem); (case b => k_mem); (case z => ((try simp only [List.length_append, List.length_cons, List.length_nil]); omega)); k_whole); intro zqD zqh zqF zqN zql1; (try simp only [AllLt, and_true] at zql1))
    k_with "!k_mem" => exact List.mem_append_left _ (by assumption)
    k_with "!U2" => ((case B => assumption); (case F => k_asm); (case X => assumption); (case T => assumption); (case hf => exact rfl); (case hk => exact rfl); (case N => k_asm); (case U => k_updF); (case hdp => ((try dsimp only); omega)); (case hun => ((try dsimp only); omega)); k_whole)
    k_with "!call ref" => (k_here; (rename True => zqmark9); (with_reducible show wpAny _ _ (call (Value.ref 327) _) _ _ _); k_dflt (refine' use_upd (take_spec ?h1 ?h2 ?h3 ?h4) ?B ?F ?X ?T ?hf ?hk ?N ?U ?hdp ?hun ?_; (case h1 => omega); (case h2 => omega); (case h3 => assumption); (case h4 => assumption); k_extra "!U2"); rintro zqv zqo zqh zqtk zqF zqN ⟨zqr, zqt, zqx, zqtx, zqy, zqty, zqn, zqev, zqr0, zqr1, zqy0, zqy1, zqeo⟩; subst zqev; subst zqeo; (try dsimp only))
    k_with "!call ref" => (k_here; (rename True => zqmark9); (with_reducible show wpAny _ _ (call (Value.ref 334) _) _ _ _); k_dflt (refine' use_one ?h1 ?h2 ?h3 ?h4 ?h5 ?h6 ?B ?F ?X ?T ?hf ?hk ?N ?U ?hdp ?hun ?_; (case B => assumption); (case F => k_asm); (case X => assumption); (case T => assumption); (case hf => exact rfl); (case hk => exact rfl); (case N => k_asm); (case h6 => k_mem); (case U => k_updF); (case h1 => (first | ((try simp only [List.length_append, List.length_cons, List.length_nil]); omega) | ((rename (IntsAre _ (List.drop _ _)) => zqhI9); (have zqhW9 := IntsAre.length zqhI9); (simp only [natInts, List.map_cons, List.drop_succ_cons, List.drop_zero, List.length_map] at zqhW9); omega))); (case h2 => (first | ((try simp only [List.length_append, List.length_cons, List.length_nil]); omega) | ((rename (IntsAre _ (List.drop _ _)) => zqhI9); (have zqhW9 := IntsAre.length zqhI9); (simp only [natInts, List.map_cons, List.drop_succ_cons, List.drop_zero, List.length_map] at zqhW9); omega))); (case h3 => assumption); (case h4 => assumption); (case h5 => k_ne); (case hdp => ((try dsimp only); omega)); (case hun => ((try dsimp only); omega)); k_whole); intro zqv zqx zqtx zqy zqty zqn zqh zqtk zqF zqN zqy0 zqy1 zqhv)
    k_with "!setItem ref int" => (k_here; (rename True => zqmark7); k_dflt (refine' kda_set (knd := PySem.intKind _ _) ?F ?N ?U ?d (intKind_is _ _ _ _) ?z ?_; (case F => k_asm); (case N => k_asm); (case U => k_updF); (case d => assumption); (case z => (rw [sizeLine_eq]; omega)); k_whole); intro zqh zqo zqF zqN zqhd; (try dsimp only at zqN))
    k_steps
    rename Fr _ _ _ _ => F11
    rename News _ _ _ _ => N11
    rename (Obj.IsDictOf _ _ (stored _ _ _)) => hd11
    rename (_ ∧ _ ∧ _ ∧ _ ∧ _ ∧ AllLt _ _) => lb
    rename (_ ∧ _ ∧ _ ∧ _ ∧ AllLt _ _) => la
    obtain ⟨nx, n1, n2, n3, n4⟩ := grow_step ok O9 hREST hoff (by assumption) (by assumption) hd11 N11 F11 (fun q hq => by
      rcases List.mem_cons.mp hq with rfl | hq
      · exact .head _
      rcases List.mem_cons.mp hq with rfl | hq
      · exact .tail _ (.head _)
      · exact .tail _ (.tail _ (.tail _ hq))) la.2.1 la.2.2.1 la.2.2.2.1 la.2.2.2.2 lb.1 rfl rfl rfl rfl
    exact ⟨_, _, _, _, nx, rfl, F11, N11, n1, n2, n3, n4⟩
  case done =>
    clear N1 hd9 lo9 l9 G0 N2' F1
    intro m₁ nx h tk hJ F₁ N₁
    obtain ⟨C, τ, ρ, x, y, tx, ty, n, inr, us, c, r, rfl, ok, e1, e2, e3, e4⟩ := hJ
    have F₂ := fr_pins (l := [(Str.ofString "source", _), (Str.ofString "tree", _), (Str.ofString "rows", _), (Str.ofString "inner", _)]) F₁ (allC e1 (allC e2 (all2 e3 e4)))
    clear F₁ e1 e2 e3 e4
    have W := ok.done (by omega)
    k_with_none
    k_with "!c1" => first | assumption | exact And.right (by k_extra "!c2") | fail
    k_with "!c2" => first | assumption | exact And.right (by k_extra "!c3") | fail
    k_with "!c3" => first | assumption | exact And.right (by k_extra "!c4") | fail
    k_with "!c4" => first | assumption | exact And.right (by k_extra "!c5") | fail
    k_with "!c5" => first | assumption | exact And.right (by k_extra "!c6") | fail
    k_with "!c6" => first | assumption | exact And.right (by k_extra "!c7") | fail
    k_with "!c7" => first | assumption | exact And.right (by k_extra "!c8") | fail
    k_with "!c8" => assumption
    k_with "!lt9" => with_reducible first | exact And.left (by k_extra "!c1") | exact And.right (by k_extra "!c1") | fail
    k_with "!omega" => with_reducible first | exact lt_dp (by assumption) (by with_unfolding_all exact rfl) | exact lt_un (by assumption) (by with_unfolding_all exact rfl) | assumption | exact Ne.symm (by assumption) | exact Nat.ne_of_lt (by assumption) | exact Nat.ne_of_gt (by assumption) | exact le_big (by assumption) (by with_unfolding_all exact rfl) | exact le_big2 (by assumption) (by with_unfolding_all exact rfl) | exact lt_big (by assumption) (by with_unfolding_all exact rfl) | exact Nat.le_of_ble_eq_true (by with_unfolding_all exact rfl) | exact Nat.ne_of_gt (lt_s (by assumption)) | exact Nat.ne_of_gt (lt_s (lt_s (by assumption))) | exact Nat.ne_of_gt (lt_s (lt_s (lt_s (by assumption)))) | exact Nat.ne_of_lt (by k_extra "!lt9") | exact Nat.ne_of_gt (by k_extra "!lt9") | (refine Nat.lt_of_lt_of_le ?_ (Nat.le_refl _); k_extra "!lt9") | fail
    k_with "!item" => first | (k_here; (with_reducible show wpAny _ _ (subscriptTail _ _ (Value.ref _) (Value.int _ _)) _ _ _); k_dflt (refine' kim_list ?N ?m ?c ?d ?z ?f ?x ?_; (case N => k_asm); (case m => k_mem); (case c => rfl); (case d => rfl); (case z => omega); (case f => omega); (case x => (try simp only [Int.toNat_natCast]); first | assumption | rfl | exact List.getElem?_eq_getElem (by omega)); k_whole)) | (k_here; (with_reducible show wpAny _ _ (subscriptTail _ _ (Value.ref _) (Value.int _ _)) _ _ _); k_dflt (refine' kda_item (knd := PySem.intKind _ _) ?N ?m ?d (intKind_is _ _ _ _) ?v ?_; (case N => k_asm); (case d => assumption); (case m => k_mem); (case v => assumption); k_whole))
    k_with "!subscriptTail" => k_extra "!item"
    k_with "!subscriptTail Name Constant ref int" => k_extra "!item"
    k_with "!subscriptTail Name Name ref int" => k_extra "!item"
    k_with "!k_all" => first | exact ne_of_allLt (by assumption) | exact ne_of_allLt (And.right (by assumption)) | exact ne_of_allLt (And.right (And.right (by assumption)))
    k_with "!k_handed" => with_reducible assumption
    k_with "!k_all" => first | exact ne_of_allNe (by assumption) | exact ne_of_allNe (And.right (by assumption)) | exact ne_of_allNe (And.right (And.right (by assumption)))
    k_with "!call ref" => k_extra "call ref"
    k_with "!k_all" => first | exact ne_of_lts2 (by assumption) | (with_reducible assumption)
    k_with "!k_mem" => assumption
    k_with "!callWith ref" => (k_here; k_dflt (first | (refine' callWith_K ?k1 ?k2 ?_; (case k1 => k_asm); (case k2 => k_is); k_whole) | (refine' callWith_K0 ?k1 ?k2 ?_; (case k1 => k_in); (case k2 => k_is); k_whole) | (refine' callWith_M0 ?k1 ?k2 ?_; (case k1 => k_meth); (case k2 => k_is); k_whole; try dsimp only [List.nil_append, List.cons_append]) | (refine' callWith_M ?k1 ?k2 ?k3 ?k4 ?_; (case k1 => k_asm); (case k2 => k_asm); (case k3 => k_mem); (case k4 => k_is); k_whole) | (refine' callWith_F ?k1 ?_; (case k1 => exact FnAt.of (by k_asm) (by k_mem)); k_whole)))
    k_with "!exec For Name Call cons nil" => k_extra "exec For"
    k_with "!pyIter ref" => k_extra "pyIter ref"
    k_with "!revslice" => (k_here; (with_reducible show wpAny _ _ (subscriptTail _ (PySem.Expr.Slice none none (some _) _) (Value.ref _) (Value.ref _)) _ _ _); k_dflt (refine' krv_ints ?F ?N ?l ?k ?i ?_ ?s ?t ?z; (case F => k_asm); (case N => k_asm); (case l => exact L_isList (by k_asm) (by k_mem)); (case k => exact IsPart.int _ _); (case i => assumption); (case s => with_unfolding_all rfl); (case t => (intro _; with_unfolding_all rfl)); (case z => (rw [List.size_toArray, sizeLine_eq]; omega))); intro zqD zqws zqh zqF zqN zql1 zqhI zqhC; (have zqhW := IntsAre.length zqhI); (replace zql1 := allLt_of zql1); (try simp only [AllLt, and_true] at zql1))
    k_with "!subscriptTail Name Slice ref ref" => k_extra "!revslice"
    k_with "!eval Name" => (k_here; kc_free; k_dflt (refine' nameX_F ?N ?c ?m ?d ?_ ?a ?b; (case a => rfl); (case b => rfl); (case N => k_asm); (case c => rfl); (case m => k_mem); (case d => k_asm); k_whole))
    k_with "!exec Return some" => k_extra "exec Return some"
    k_with "!eval Dict" => (k_here; k_dflt (refine' kdn_eval (knd := PySem.intKind _ _) ?F ?N ?b ?a ?l ?e ?n ?_; (case F => k_asm); (case N => k_asm); (case b => exact Top.nolimit (by k_asm)); (case a => rfl); (case l => rfl); (case e => exact List.cons_ne_nil _ _); (case n => exact Nat.le_of_ble_eq_true rfl)); intro zqd zqh zqo zqF zqN zql1 zqlo zqhd; (try k_lt zql1))
    k_with "!call type:range" => ((with_reducible show wpAny _ _ (call _ [_]) _ _ _); (rename Fr _ _ _ _ => zqF); (rename News _ _ _ _ => zqN); (with_unfolding_all refine range1_rows zqF zqN ?_); intro zqh zqtk zqt1 zqu1 zqv1 zqhR zqF zqN zqka)
    k_with "!k_room" => ((try simp only [depth_under_make, depth_under_kw, depth_in1, depth_deeper, depth_caller]); (show _ < (1000 : Nat)); (try dsimp only); omega)
    k_with "!binaryOp Add ref ref" => (k_here; (with_reducible show wpAny _ _ (binaryOp _ (Value.ref _) (Value.ref _)) _ _ _); k_dflt (refine' add_my ?F ?N ?a ?b ?z ?_; (case F => k_asm); (case N => k_asm); (case a => k_mem); (case b => k_mem); (case z => ((try simp only [List.length_append, List.length_cons, List.length_nil]); omega)); k_whole); intro zqD zqh zqF zqN zql1; (try simp only [AllLt, and_true] at zql1))
    k_with "!k_mem" => exact List.mem_append_left _ (by assumption)
    k_with "!U2" => ((case B => assumption); (case F => k_asm); (case X => assumption); (case T => assumption); (case hf => exact rfl); (case hk => exact rfl); (case N => k_asm); (case U => k_updF); (case hdp => ((try dsimp only); omega)); (case hun => ((try dsimp only); omega)); k_whole)
    k_with "!call ref" => (k_here; (rename True => zqmark9); (with_reducible show wpAny _ _ (call (Value.ref 327) _) _ _ _); k_dflt (refine' use_upd (take_spec ?h1 ?h2 ?h3 ?h4) ?B ?F ?X ?T ?hf ?hk ?N ?U ?hdp ?hun ?_; (case h1 => omega); (case h2 => omega); (case h3 => assumption); (case h4 => assumption); k_extra "!U2"); rintro zqv zqo zqh zqtk zqF zqN ⟨zqr, zqt, zqx, zqtx, zqy, zqty, zqn, zqev, zqr0, zqr1, zqy0, zqy1, zqeo⟩; subst zqev; subst zqeo; (try dsimp only))
    k_with "!call ref" => (k_here; (rename True => zqmark9); (with_reducible show wpAny _ _ (call (Value.ref 334) _) _ _ _); k_dflt (refine' use_one ?h1 ?h2 ?h3 ?h4 ?h5 ?h6 ?B ?F ?X ?T ?hf ?hk ?N ?U ?hdp ?hun ?_; (case B => assumption); (case F => k_asm); (case X => assumption); (case T => assumption); (case hf => exact rfl); (case hk => exact rfl); (case N => k_asm); (case h6 => k_mem); (case U => k_updF); (case h1 => (first | ((try simp only [List.length_append, List.length_cons, List.length_nil]); omega) | ((rename (IntsAre _ (List.drop _ _)) => zqhI9); (have zqhW9 := IntsAre.length zqhI9); (simp only [natInts, List.map_cons, List.drop_succ_cons, List.drop_zero, List.length_map] at zqhW9); omega))); (case h2 => (first | ((try simp only [List.length_append, List.length_cons, List.length_nil]); omega) | ((rename (IntsAre _ (List.drop _ _)) => zqhI9); (have zqhW9 := IntsAre.length zqhI9); (simp only [natInts, List.map_cons, List.drop_succ_cons, List.drop_zero, List.length_map] at zqhW9); omega))); (case h3 => assumption); (case h4 => assumption); (case h5 => k_ne); (case hdp => ((try dsimp only); omega)); (case hun => ((try dsimp only); omega)); k_whole); intro zqv zqx zqtx zqy zqty zqn zqh zqtk zqF zqN zqy0 zqy1 zqhv)
    k_with "!setItem ref int" => (k_here; (rename True => zqmark7); k_dflt (refine' kda_set (knd := PySem.intKind _ _) ?F ?N ?U ?d (intKind_is _ _ _ _) ?z ?_; (case F => k_asm); (case N => k_asm); (case U => k_updF); (case d => assumption); (case z => (rw [sizeLine_eq]; omega)); k_whole); intro zqh zqo zqF zqN zqhd; (try dsimp only at zqN))
    k_steps
    rename Fr _ _ _ _ => F3
    rename News _ _ _ _ => N3
    rename (_ ∧ _ ∧ _ ∧ AllLt _ _) => l3
    refine ⟨_, _, _, rfl, F3, _, C, τ, ρ, x, y, tx, ty, n, rfl, W, fun q hq => ?_⟩
    rcases List.mem_cons.mp hq with rfl | hq
    · exact ⟨(N3 _ (.head _)).1, .inr (fresh_of kp N3 (.head _) fun p hp => by rw [List.mem_singleton.mp hp]; exact Nat.ne_of_lt l3.1)⟩
    · refine ⟨(N3 q (sub3 q hq)).1, (W.fresh _ q hq).elim .inl fun e => .inr (fresh_of (D := q.1) (o := q.2) kp N3 (sub3 q hq) fun p hp => by rw [List.mem_singleton.mp hp]; exact fun e' => e e'.symm)⟩
end
end
section
example : True := by
  w_top off
  k_with_none
  k_with "!c1" => first | assumption | exact And.right (by k_extra "!c2") | fail
  k_with "!c2" => first | assumption | exact And.right (by k_extra "!c3") | fail
  k_with "!c3" => first | assumption | exact And.right (by k_extra "!c4") | fail
  k_with "!c4" => first | assumption | exact And.right (by k_extra "!c5") | fail
  k_with "!c5" => first | assumption | exact And.right (by k_extra "!c6") | fail
  k_with "!c6" => first | assumption | exact And.right (by k_extra "!c7") | fail
  k_with "!c7" => first | assumption | exact And.right (by k_extra "!c8") | fail
  k_with "!c8" => assumption
  k_with "!lt9" => with_reducible first | exact And.left (by k_extra "!c1") | exact And.right (by k_extra "!c1") | fail
  k_with "!omega" => with_reducible first | exact lt_dp (by assumption) (by with_unfolding_all exact rfl) | exact lt_un (by assumption) (by with_unfolding_all exact rfl) | assumption | exact Ne.symm (by assumption) | exact Nat.ne_of_lt (by assumption) | exact Nat.ne_of_gt (by assumption) | exact le_big (by assumption) (by with_unfolding_all exact rfl) | exact le_big2 (by assumption) (by with_unfolding_all exact rfl) | exact lt_big (by assumption) (by with_unfolding_all exact rfl) | exact Nat.le_of_ble_eq_true (by with_unfolding_all exact rfl) | exact Nat.ne_of_gt (lt_s (by assumption)) | exact Nat.ne_of_gt (lt_s (lt_s (by assumption))) | exact Nat.ne_of_gt (lt_s (lt_s (lt_s (by assumption)))) | exact Nat.ne_of_lt (by k_extra "!lt9") | exact Nat.ne_of_gt (by k_extra "!lt9") | (refine Nat.lt_of_lt_of_le ?_ (Nat.le_refl _); k_extra "!lt9") | fail
  k_with "!call builtin:len" => (k_here; (with_reducible show wpAny _ _ (call (Value.builtin "len") [Value.ref _]) _ _ _); k_dflt (refine' L_len ?N ?m ?z ?_; (case N => k_asm); (case m => k_mem); (case z => omega); k_whole))
  k_with "!item" => first | (k_here; (with_reducible show wpAny _ _ (subscriptTail _ _ (Value.ref _) (Value.int _ _)) _ _ _); k_dflt (refine' kim_list ?N ?m ?c ?d ?z ?f ?x ?_; (case N => k_asm); (case m => k_mem); (case c => rfl); (case d => rfl); (case z => omega); (case f => omega); (case x => (try simp only [Int.toNat_natCast]); first | assumption | rfl | exact List.getElem?_eq_getElem (by omega)); k_whole)) | (k_here; (with_reducible show wpAny _ _ (subscriptTail _ _ (Value.ref _) (Value.int _ _)) _ _ _); k_dflt (refine' kda_item (knd := PySem.intKind _ _) ?N ?m ?d (intKind_is _ _ _ _) ?v ?_; (case N => k_asm); (case d => assumption); (case m => k_mem); (case v => assumption); k_whole))
  k_with "!subscriptTail" => k_extra "!item"
  k_with "!subscriptTail Name Constant ref int" => k_extra "!item"
  k_with "!subscriptTail Name Name ref int" => k_extra "!item"
  k_with "!k_all" => first | exact ne_of_allLt (by assumption) | exact ne_of_allLt (And.right (by assumption)) | exact ne_of_allLt (And.right (And.right (by assumption)))
  k_with "!sub" => first | exact fun _ h => h | (with_reducible assumption) | exact sub_app (by assumption) | exact sub_app (fun _ h => h) | exact (fun _ h => List.mem_append_right _ h) | (refine sub_cc ?_; k_extra "!sub") | (refine sub_tl ?_; k_extra "!sub")
  k_with "!U" => ((case B => assumption); (case F => k_asm); (case X => assumption); (case T => assumption); (case hf => exact rfl); (case hk => exact rfl); (case N => k_asm); (case hs => k_extra "!sub"); (case hdp => ((try dsimp only); omega)); (case hun => ((try dsimp only); omega)); k_whole)
  k_with "!k_handed" => with_reducible assumption
  k_with "!call type:list" => (k_here; (with_reducible show wpAny _ _ (call (Value.type "list") [Value.ref _]) _ _ _); k_dflt (refine' L_copy ?F ?N ?m ?z ?_; (case F => k_asm); (case N => k_asm); (case m => k_mem); (case z => omega); k_whole); intro zqD zqc zqh zqF zqN zql1; (try simp only [AllLt, and_true] at zql1))
  k_with "!k_all" => first | exact ne_of_allNe (by assumption) | exact ne_of_allNe (And.right (by assumption)) | exact ne_of_allNe (And.right (And.right (by assumption)))
  k_with "!subscriptTail Name Call ref int" => k_extra "!item"
  k_with "!exec While Compare cons nil" => k_extra "exec While Compare cons nil"
  k_with "!call ref" => k_extra "call ref"
  k_with "!k_all" => first | exact ne_of_lts2 (by assumption) | (with_reducible assumption)
  k_with "!k_mem" => assumption
  k_with "!callWith ref" => (k_here; k_dflt (first | (refine' callWith_K ?k1 ?k2 ?_; (case k1 => k_asm); (case k2 => k_is); k_whole) | (refine' callWith_K0 ?k1 ?k2 ?_; (case k1 => k_in); (case k2 => k_is); k_whole) | (refine' callWith_M0 ?k1 ?k2 ?_; (case k1 => k_meth); (case k2 => k_is); k_whole; try dsimp only [List.nil_append, List.cons_append]) | (refine' callWith_M ?k1 ?k2 ?k3 ?k4 ?_; (case k1 => k_asm); (case k2 => k_asm); (case k3 => k_mem); (case k4 => k_is); k_whole) | (refine' callWith_F ?k1 ?_; (case k1 => exact FnAt.of (by k_asm) (by k_mem)); k_whole)))
  k_with "!exec For Name Call cons nil" => k_extra "exec For"
  k_with "!exec For Name Name cons nil" => k_extra "exec For"
  k_with "!exec For Name Attribute cons nil" => k_extra "exec For"
  k_with "!pyIter ref" => k_extra "pyIter ref"
  k_with "!revslice" => (k_here; (with_reducible show wpAny _ _ (subscriptTail _ (PySem.Expr.Slice none none (some _) _) (Value.ref _) (Value.ref _)) _ _ _); k_dflt (refine' krv_ints ?F ?N ?l ?k ?i ?_ ?s ?t ?z; (case F => k_asm); (case N => k_asm); (case l => exact L_isList (by k_asm) (by k_mem)); (case k => exact IsPart.int _ _); (case i => assumption); (case s => with_unfolding_all rfl); (case t => (intro _; with_unfolding_all rfl)); (case z => (rw [List.size_toArray, sizeLine_eq]; omega))); intro zqD zqws zqh zqF zqN zql1 zqhI zqhC; (have zqhW := IntsAre.length zqhI); (replace zql1 := allLt_of zql1); (try simp only [AllLt, and_true] at zql1))
  k_with "!subscriptTail Name Slice ref ref" => k_extra "!revslice"
  k_with "!subscriptTail Subscript Slice ref ref" => k_extra "!revslice"
  k_with "!subscriptTail Subscript Constant ref int" => k_extra "!item"
  k_with "!compareOp In int ref" => (k_here; k_dflt (refine' in_list_ints ?hl ?hi ?_; (case hl => exact L_isList (by k_asm) (by k_mem)); (case hi => assumption); k_whole))
  k_with "!exec Assign cons ListComp" => (k_here; (rename Fr _ _ _ _ => zqlF9); k_dflt (refine comp_assign zqlF9 (by rfl) (by with_unfolding_all rfl) (by with_unfolding_all rfl) (by decide) (by rfl) (by decide) (by rfl) (by rfl) (by rfl) ?_))
  k_with "!eval ListComp" => (k_here; (rename Fr _ _ _ _ => zqlF9); k_dflt (refine comp_expr zqlF9 (by with_unfolding_all rfl) (by decide) (by rfl) (by decide) (by rfl) ?_))
  k_with "!eval Name" => (k_here; kc_free; k_dflt (refine' nameX_F ?N ?c ?m ?d ?_ ?a ?b; (case a => rfl); (case b => rfl); (case N => k_asm); (case c => rfl); (case m => k_mem); (case d => k_asm); k_whole))
  k_with "!U3" => ((case N => k_asm); (case hs => exact fun _ h => h); (case hsub => k_extra "!sub"); (case B => assumption); (case F => k_asm); (case X => assumption); (case T => assumption); (case hf => exact rfl); (case hk => exact rfl); (case hdp => ((try dsimp only); omega)); (case hun => ((try dsimp only); omega)))
  k_with "!lamB1" => ((case m1 => k_mem); (case m2 => k_mem); (case m3 => assumption); (case m4 => assumption); (case m5 => k_mem); (case m6 => assumption); (case m7 => k_mem))
  k_with "!lamS1" => ((case n1 => k_mem); (case n2 => k_mem); (case n3 => assumption); (case n4 => assumption); (case n5 => k_mem); (case n6 => assumption); (case n7 => k_mem))
  k_with "!exec Return some" => k_extra "exec Return some"
  k_with "!call builtin:len" => (k_here; (with_reducible show wpAny _ _ (call (Value.builtin "len") [Value.ref _]) _ _ _); k_dflt (refine' L_len ?N ?m ?z ?_; (case N => k_asm); (case m => k_mem); (case z => ((simp only [List.length_append, List.length_cons, List.length_nil]); omega)); k_whole))
  k_with "!U5" => ((case B => assumption); (case F => k_asm); (case X => assumption); (case T => assumption); (case hf => exact rfl); (case hk => exact rfl); (case N => k_asm); (case hdp => ((try dsimp only); omega)); (case hun => ((try dsimp only); omega)); k_whole)
  k_with "!eval Dict" => (k_here; k_dflt (refine' kdn_eval (knd := PySem.intKind _ _) ?F ?N ?b ?a ?l ?e ?n ?_; (case F => k_asm); (case N => k_asm); (case b => exact Top.nolimit (by k_asm)); (case a => rfl); (case l => rfl); (case e => exact List.cons_ne_nil _ _); (case n => exact Nat.le_of_ble_eq_true rfl)); intro zqd zqh zqo zqF zqN zql1 zqlo zqhd; (try k_lt zql1))
  k_with "!call type:range" => ((with_reducible show wpAny _ _ (call _ [_]) _ _ _); (rename Fr _ _ _ _ => zqF); (rename News _ _ _ _ => zqN); (with_unfolding_all refine range1_rows zqF zqN ?_); intro zqh zqtk zqt1 zqu1 zqv1 zqhR zqF zqN zqka)
  trivial
section
variable {prog : Program} {w : World} {A : Around} {E : Value → Shared → Prop} {s : Shared} {env : Env} {h₀ : Heap} {x : Str} {body : List Stmt} {Q : Flow → Shared → Prop} {K : Type} [DecidableEq K] {knd : KeyKind prog w K}
/-- a loop over a dict of the ledger, which stands throughout -/
theorem dict_iter {d : Addr} {od : Obj} {kvs : List (K × Value)} {m₀ : Str → Option Value} {news : List (Addr × Obj)} (J : Nat → (Str → Option Value) → List (Addr × Obj) → Prop)
    (hh : A.handled = none) (hm : (d, od) ∈ news) (hd : od.IsDictOf knd kvs) (lo : (d == sysModules) = false) (F : Fr h₀ env.locals s.heap m₀) (N : News h₀ env.locals s.heap news) (hj : J 0 m₀ news)
    (turn : ∀ i v m₁ nx h tk own, (∃ k x, kvs[i]? = some (k, x) ∧ knd.is k v = true) → TbOff own nx → (d, od) ∈ nx → J i m₁ nx → Fr h₀ env.locals h (fun y => if y = x then some v else m₁ y) → News h₀ env.locals h (nx ++ own) →
      wpAny (model prog w) A (execs body env) (TbPost h₀ env.locals (fun m' nx' => (d, od) ∈ nx' ∧ J (i + 1) m' nx') own { s with heap := h, toks := tk } Q) E { s with heap := h, toks := tk })
    (done : ∀ m₁ nx h tk, J kvs.length m₁ nx → Fr h₀ env.locals h m₁ → News h₀ env.locals h nx → Q .next { s with heap := h, toks := tk }) :
    wpAny (model prog w) A (pyIter (.ref d)) (fun it s₂ => LoopAtV prog w A h₀ env x body Q E it s₂) E s := by
  obtain ⟨ep, hat⟩ := (kda_dict N hm hd).dictAt
  refine wpAny_pyIter_dict lo hat ?_
  have hne : d ≠ s.heap.objs.size := Nat.ne_of_lt hat.lt_size
  refine ⟨s.heap.objs.size, [s.heap.objs.size, d], [s.heap.objs.size], kvs.length, _, _, m₀, news, fun i m nx => (d, od) ∈ nx ∧ J i m nx, rfl, Walks.dictKeys (knd := knd) hh _ d hne kvs ep, ?_, ?_, ?_,
    ⟨⟨_, Heap.get?_push_size _ rfl, rfl, rfl⟩, hat.push _⟩, F.push _, (fun p hp => ⟨Heap.get?_push_of_some _ (N p hp).1, (N p hp).2⟩), ⟨hm, hj⟩, ?_, ?_⟩
  · intro hl
    rcases List.mem_cons.mp hl with e | hl
    · exact absurd F.ns.lt (e ▸ Nat.lt_irrefl _)
    · exact (N _ hm).2.1 (List.mem_singleton.mp hl).symm
  · intro b hb
    rw [List.mem_singleton.mp hb]
    exact next_is_new F
  · intro p hp hI
    exact absurd (Heap.lt_size (N p hp).1) ((List.mem_singleton.mp hI) ▸ Nat.lt_irrefl _)
  · rintro i v m₁ news₁ s₁ own ⟨hh', tk', rfl⟩ hin hP ⟨hdm, hJ⟩ hoff hown hheld hmem hst F₁ N₁
    obtain ⟨⟨oi, hoi, _⟩, _⟩ := hst
    have hI : (s.heap.objs.size, oi) ∈ own := hmem _ (.head _) (next_is_new F) oi hoi
    have hI2 : (s.heap.objs.size, oi) ∈ own.filter (fun p => decide (p.1 ≠ d)) := List.mem_filter.mpr ⟨hI, by simpa using fun e => hne e.symm⟩
    have hsep : TbOff (own.filter (fun p => decide (p.1 ≠ d))) news₁ := by
      intro p hp q hq e
      obtain ⟨h1, h2⟩ := List.mem_filter.mp hp
      rcases List.mem_cons.mp (hown p h1) with h3 | h3
      · exact hoff q hq (List.mem_singleton.mpr (by rw [← e, h3]))
      · simp [List.mem_singleton.mp h3] at h2
    have N₂ : News h₀ env.locals hh' (news₁ ++ own.filter (fun p => decide (p.1 ≠ d))) := fun p hp => N₁ p ((List.mem_append.mp hp).elim (fun h => List.mem_append.mpr (.inr h)) fun h => List.mem_append.mpr (.inl (List.mem_filter.mp h).1))
    have hdo : ∀ p ∈ own, p.1 = d → p = (d, od) := fun p hp e => by
      have h1 := hheld p hp
      have h2 := (N₁ (d, od) (List.mem_append_right _ hdm)).1
      rw [e] at h1
      exact Prod.ext e (Option.some.inj (h1.symm.trans h2))
    refine wpAny_mono (turn i v m₁ news₁ hh' tk' _ hP hsep hdm hJ F₁ N₂) (fun f s₂ p => ?_) fun _ _ e => e
    have fin : TbEnd h₀ env.locals (fun m' nx' => (d, od) ∈ nx' ∧ J (i + 1) m' nx') (own.filter (fun p => decide (p.1 ≠ d))) { s with heap := hh', toks := tk' } s₂ → LoopStepU h₀ env.locals [s.heap.objs.size] own (fun m nx => (d, od) ∈ nx ∧ J (i + 1) m nx) { s with heap := hh', toks := tk' } .next s₂ := by
      rintro ⟨h', tk, m', news', nx, e, F', N', hn, ho, ha, hm⟩
      refine ⟨rfl, h', tk, m', nx, e, F', fun p hp => N' p ((List.mem_append.mp hp).elim (fun h => ?_) (hn p)), fun p hp hq => ha _ hI2 p hp (List.mem_singleton.mp hq).symm, hm⟩
      by_cases e2 : p.1 = d
      · rw [hdo p h e2]; exact hn _ hm.1
      · exact ho p (List.mem_filter.mpr ⟨h, by simpa using e2⟩)
    cases f with
    | ret v => exact .ret p
    | brk => exact .brk p
    | next => exact .next (fin p)
    | cont => exact .cont (fin p)
  · rintro h' tk m' news' F' N' _ ⟨_, hJ⟩
    exact done m' news' h' tk hJ F' N'
end
section
variable {ents : List EntC} {i : Nat} {E E' : EntC}
theorem ents_set_mem (nd : ((ents.flatMap EntC.led).map (·.1)).Nodup) (hE : ents[i]? = some E) : ∀ q ∈ (ents.set i E').flatMap EntC.led, q ∈ E'.led ∨ (q ∈ ents.flatMap EntC.led ∧ q.1 ≠ E.e) := by
  induction ents generalizing i with
  | nil => simp at hE
  | cons a r ih =>
    rw [List.flatMap_cons, List.map_append] at nd
    obtain ⟨n1, n2, n3⟩ := List.nodup_append.mp nd
    intro q hq
    cases i with
    | zero =>
      simp at hE; subst hE
      rw [List.set_cons_zero, List.flatMap_cons] at hq
      rcases List.mem_append.mp hq with hq | hq
      · exact .inl hq
      · exact .inr ⟨by rw [List.flatMap_cons]; exact List.mem_append_right _ hq, fun e => n3 a.e (by simp [EntC.led]) q.1 (List.mem_map_of_mem hq) e.symm⟩
    | succ i =>
      have hE' : r[i]? = some E := by simpa using hE
      rw [List.set_cons_succ, List.flatMap_cons] at hq
      rw [List.flatMap_cons]
      rcases List.mem_append.mp hq with hq | hq
      · refine .inr ⟨List.mem_append_left _ hq, fun e => ?_⟩
        exact n3 q.1 (List.mem_map_of_mem hq) E.e (List.mem_map.mpr ⟨(E.e, _), List.mem_flatMap.mpr ⟨E, List.mem_of_getElem? hE', .head _⟩, rfl⟩) e
      · rcases ih n2 hE' q hq with h | h
        · exact .inl h
        · exact .inr ⟨List.mem_append_right _ h.1, h.2⟩
theorem ents_set_nd (nd : ((ents.flatMap EntC.led).map (·.1)).Nodup) (hE : ents[i]? = some E) (he : E'.e = E.e) (hp : ∀ q ∈ ents.flatMap EntC.led, q.1 ≠ E'.p) : (((ents.set i E').flatMap EntC.led).map (·.1)).Nodup := by
  induction ents generalizing i with
  | nil => simp at hE
  | cons a r ih =>
    have nd0 := nd
    rw [List.flatMap_cons, List.map_append] at nd
    obtain ⟨n1, n2, n3⟩ := List.nodup_append.mp nd
    cases i with
    | zero =>
      simp at hE; subst hE
      rw [List.set_cons_zero, List.flatMap_cons, List.map_append]
      refine List.nodup_append.mpr ⟨?_, n2, fun x hx y hy => ?_⟩
      · simp only [EntC.led, List.map_cons, List.map_nil, List.nodup_cons, List.mem_cons, List.not_mem_nil, or_false, not_false_eq_true, List.nodup_nil, and_true]
        rw [he]
        exact hp (a.e, _) (by rw [List.flatMap_cons]; exact List.mem_append_left _ (.head _))
      · obtain ⟨q, hq, rfl⟩ := List.mem_map.mp hy
        simp only [EntC.led, List.map_cons, List.map_nil, List.mem_cons, List.not_mem_nil, or_false] at hx
        rcases hx with rfl | rfl
        · rw [he]; exact n3 a.e (by simp [EntC.led]) q.1 (List.mem_map_of_mem hq)
        · exact (hp q (by rw [List.flatMap_cons]; exact List.mem_append_right _ hq)).symm
    | succ i =>
      have hE' : r[i]? = some E := by simpa using hE
      rw [List.set_cons_succ, List.flatMap_cons, List.map_append]
      refine List.nodup_append.mpr ⟨n1, ih n2 hE' (fun q hq => hp q (by rw [List.flatMap_cons]; exact List.mem_append_right _ hq)), fun x hx y hy => ?_⟩
      obtain ⟨q, hq, rfl⟩ := List.mem_map.mp hy
      obtain ⟨z, hz, rfl⟩ := List.mem_map.mp hx
      rcases ents_set_mem n2 hE' q hq with h | h
      · simp only [EntC.led, List.mem_cons, List.not_mem_nil, or_false] at h
        rcases h with rfl | rfl
        · rw [he]
          exact n3 z.1 (List.mem_map_of_mem hz) E.e (List.mem_map.mpr ⟨(E.e, _), List.mem_flatMap.mpr ⟨E, List.mem_of_getElem? hE', .head _⟩, rfl⟩)
        · exact hp z (by rw [List.flatMap_cons]; exact List.mem_append_left _ hz)
      · exact n3 z.1 (List.mem_map_of_mem hz) q.1 (List.mem_map_of_mem h.1)
theorem kvs_set (hE : ents[i]? = some E) (he : E'.e = E.e) : ∀ k, kvsFrom k (ents.set i E') = kvsFrom k ents := by
  induction ents generalizing i with
  | nil => intro k; rfl
  | cons a r ih =>
    intro k
    cases i with
    | zero => simp at hE; subst hE; simp only [List.set_cons_zero, kvsFrom, he]
    | succ i => simp only [List.set_cons_succ, kvsFrom, ih (by simpa using hE)]
end
section
variable {S : Shape} {τ : TreeC}
theorem up_mem_len (hS : S.Of τ) {g : Nat} : ∀ i, i < S.n → g ∈ S.up (some i) → g < S.n ∧ (S.up (some g)).length ≤ (S.up (some i)).length := by
  intro i
  induction i using Nat.strongRecOn with
  | ind i ih =>
    intro hi hm
    rw [Shape.up_some hS hi] at hm
    rcases List.mem_cons.mp hm with rfl | hm
    · exact ⟨hi, Nat.le_refl _⟩
    · cases hp : S.par i with
      | none => rw [hp] at hm; cases hm
      | some j =>
        rw [hp] at hm
        have hj := hS.below i j hi hp
        obtain ⟨h1, h2⟩ := ih j hj (Nat.lt_trans hj hi) hm
        refine ⟨h1, Nat.le_trans h2 ?_⟩
        rw [Shape.up_some hS hi, hp]; simp
end
section
variable {w : World} {C : Core} {kn pn kn' pn' : Nat → Str} {T T' : Nat} {τ τ' : TreeC} {g : Nat}
theorem up_cut (H : Store w C kn pn T τ) (H' : Store w (C.cut g) kn' pn' T' τ') : ∀ i, i < C.n →
    ((C.cut g).shape.up (some i)).reverse = if g ∈ C.shape.up (some i) then (C.shape.up (some i)).reverse.drop ((C.shape.up (some g)).length - 1) else (C.shape.up (some i)).reverse := by
  intro i
  induction i using Nat.strongRecOn with
  | ind i ih =>
    intro hi
    have e1 := Shape.up_some H'.of (show i < (C.cut g).shape.n from hi)
    have e2 := Shape.up_some H.of (show i < C.shape.n from hi)
    by_cases hg : i = g
    · subst hg
      rw [e1, show (C.cut i).shape.par i = none from if_pos rfl, if_pos (by rw [e2]; exact .head _), e2]
      simp only [List.reverse_cons, List.length_cons, Nat.add_sub_cancel]
      rw [List.drop_append_of_le_length (by simp), List.drop_of_length_le (by simp)]
      rfl
    · have hp : (C.cut g).shape.par i = C.shape.par i := if_neg hg
      rw [e1, hp]
      cases hq : C.shape.par i with
      | none =>
        rw [e2, hq, if_neg (by simp [Shape.up]; exact fun e => hg e.symm)]
        rfl
      | some j =>
        have hj := H.ok.below i j hi hq
        have hj2 := Nat.lt_trans hj hi
        rw [e2, hq]
        simp only [List.reverse_cons]
        rw [ih j hj hj2]
        by_cases hm : g ∈ C.shape.up (some j)
        · rw [if_pos hm, if_pos (.tail _ hm), List.drop_append_of_le_length]
          have := (up_mem_len H.of j hj2 hm).2
          rw [List.length_reverse]; omega
        · rw [if_neg hm, if_neg fun h => (List.mem_cons.mp h).elim (fun e => hg e.symm) hm]
end
structure LawC where
  (C : Core)
  (τ : TreeC)
  (ρ : RowsC)
  (x y : Int)
  (tx ty : Tok)
  (n : Nat)
abbrev LawC.Ok (w : World) (src : Addr) (Z : LawC) : Prop := WOk w src Z.C Z.τ Z.ρ Z.y
abbrev LawC.led (w : World) (src : Addr) (Z : LawC) : List (Addr × Obj) := (src, srcL Z.x Z.y Z.tx Z.ty Z.n) :: (Z.ρ.D, Z.ρ.od) :: (Z.τ.led w ++ Z.ρ.tail)
/-- how _law_loosened stands ahead of its turn k -/
structure LooseOk (w : World) (src ce : Addr) (k : Nat) (C C' : Core) (τ : TreeC) (ρ : RowsC) (l : List EntC) : Prop where
  kv : kvsFrom 0 l = kvsFrom 0 ρ.ents
  len : l.length = C.n
  ent : ∀ i, i < C.n → ∃ E, l[i]? = some E ∧ (∃ tk, E.vk = .str (C.kind i) tk) ∧ IntsAre E.pv (natInts (if i < k then (C'.shape.up (some i)).reverse else (C.shape.up (some i)).reverse))
  os : ∀ p ∈ τ.led w ++ l.flatMap EntC.led, p.1 ≠ src
  oD : ∀ p ∈ τ.led w ++ l.flatMap EntC.led, p.1 ≠ ρ.D
  oc : ∀ p ∈ τ.led w ++ l.flatMap EntC.led, p.1 ≠ ce
  ap : ∀ q ∈ l.flatMap EntC.led, q.1 ∉ (τ.led w).map (·.1)
  nd : ((l.flatMap EntC.led).map (·.1)).Nodup
section
variable {w : World} {src ce : Addr} {i : Nat} {C C' : Core} {τ : TreeC} {ρ : RowsC} {l : List EntC} {E E' : EntC}
theorem LooseOk.same (ok : LooseOk w src ce i C C' τ ρ l) (hu : (C'.shape.up (some i)).reverse = (C.shape.up (some i)).reverse) : LooseOk w src ce (i + 1) C C' τ ρ l :=
  ⟨ok.kv, ok.len, fun j hj => by
    obtain ⟨E, h1, h2, h3⟩ := ok.ent j hj
    refine ⟨E, h1, h2, ?_⟩
    by_cases e : j = i
    · subst e
      rw [if_neg (Nat.lt_irrefl j)] at h3
      rw [if_pos (Nat.lt_succ_self j), hu]; exact h3
    · have e2 : (j < i + 1) = (j < i) := by apply propext; omega
      simpa only [e2] using h3, ok.os, ok.oD, ok.oc, ok.ap, ok.nd⟩
theorem LooseOk.step (ok : LooseOk w src ce i C C' τ ρ l) (hE : l[i]? = some E) (he : E'.e = E.e) (hk : E'.vk = E.vk) (hpv : IntsAre E'.pv (natInts (C'.shape.up (some i)).reverse))
    (hp : ∀ q ∈ τ.led w ++ l.flatMap EntC.led, q.1 ≠ E'.p) (hps : @Ne Nat E'.p src) (hpD : @Ne Nat E'.p ρ.D) (hpc : @Ne Nat E'.p ce) : LooseOk w src ce (i + 1) C C' τ ρ (l.set i E') := by
  have hEm : (E.e, listOf #[E.vk, .ref E.p] E.ee) ∈ l.flatMap EntC.led := List.mem_flatMap.mpr ⟨E, List.mem_of_getElem? hE, .head _⟩
  have gen : ∀ a : Addr, (∀ p ∈ τ.led w ++ l.flatMap EntC.led, p.1 ≠ a) → @Ne Nat E'.p a → ∀ p ∈ τ.led w ++ (l.set i E').flatMap EntC.led, p.1 ≠ a := fun a h1 h2 p hp => by
    rcases List.mem_append.mp hp with hp | hp
    · exact h1 p (List.mem_append_left _ hp)
    · rcases ents_set_mem ok.nd hE p hp with h | h
      · simp only [EntC.led, List.mem_cons, List.not_mem_nil, or_false] at h
        rcases h with rfl | rfl
        · rw [he]; exact h1 (E.e, listOf #[E.vk, .ref E.p] E.ee) (List.mem_append_right _ hEm)
        · exact h2
      · exact h1 p (List.mem_append_right _ h.1)
  refine ⟨by rw [kvs_set hE he]; exact ok.kv, by rw [List.length_set]; exact ok.len, fun j hj => ?_, gen _ ok.os hps, gen _ ok.oD hpD, gen _ ok.oc hpc, fun q hq hm => ?_, ents_set_nd ok.nd hE he fun q hq => hp q (List.mem_append_right _ hq)⟩
  · obtain ⟨F, h1, h2, h3⟩ := ok.ent j hj
    by_cases e : j = i
    · subst e
      refine ⟨E', by rw [List.getElem?_set, if_pos rfl, if_pos (by rw [ok.len]; exact hj)], ?_, by rw [if_pos (Nat.lt_succ_self j)]; exact hpv⟩
      rw [hE] at h1; cases h1
      rw [hk]; exact h2
    · refine ⟨F, by rw [List.getElem?_set, if_neg (fun q => e q.symm)]; exact h1, h2, ?_⟩
      have e2 : (j < i + 1) = (j < i) := by apply propext; omega
      simpa only [e2] using h3
  · rcases ents_set_mem ok.nd hE q hq with h | h
    · simp only [EntC.led, List.mem_cons, List.not_mem_nil, or_false] at h
      rcases h with rfl | rfl
      · rw [he] at hm; exact ok.ap (E.e, listOf #[E.vk, .ref E.p] E.ee) hEm hm
      · obtain ⟨z, hz, e⟩ := List.mem_map.mp hm
        exact hp z (List.mem_append_left _ hz) e
    · exact ok.ap q h.1 hm
end
theorem in_or_new {h g h' : Heap} {L' : Addr} {FP news' : List (Addr × Obj)} (kp : ∀ b o, b ∉ FP.map (·.1) → h.get? b = some o → g.get? b = some o) (N' : News g L' h' news') {q : Addr × Obj} (hm : q ∈ news') : q.1 ∈ FP.map (·.1) ∨ h.get? q.1 = none := by
  by_cases hq : q.1 ∈ FP.map (·.1)
  · exact .inl hq
  · refine .inr ?_
    cases e : h.get? q.1 with
    | none => rfl
    | some o' => have := kp _ o' hq e; rw [(N' _ hm).2.2] at this; cases this
def LooseJ (w : World) (src ce : Addr) (oc S : Obj) (C C' : Core) (τ : TreeC) (ρ : RowsC) (gv dv : Value) (k : Nat) (m : Str → Option Value) (nx : List (Addr × Obj)) : Prop :=
  ∃ l, nx = (ce, oc) :: (src, S) :: (ρ.D, ρ.od) :: (τ.led w ++ l.flatMap EntC.led) ∧ LooseOk w src ce k C C' τ ρ l ∧ m (Str.ofString "gone") = some gv ∧ m (Str.ofString "depth") = some dv
section
variable {w : World} {A : Around} {E : Value → Shared → Prop} {s : Shared} {env : Env} {h₀ : Heap} {x : Str} {body : List Stmt} {Q : Flow → Shared → Prop}
theorem loose_iter {src ce : Addr} {oc S : Obj} {C C' : Core} {τ : TreeC} {ρ : RowsC} {gv dv : Value} {m₀ : Str → Option Value}
    (hh : A.handled = none) (F : Fr h₀ env.locals s.heap m₀) (N : News h₀ env.locals s.heap ((ce, oc) :: (src, S) :: (ρ.D, ρ.od) :: (τ.led w ++ ρ.tail))) (hd : ρ.od.IsDictOf (PySem.intKind Prg w) (kvsFrom 0 ρ.ents)) (lo : (ρ.D == sysModules) = false)
    (ok : LooseOk w src ce 0 C C' τ ρ ρ.ents) (hg : m₀ (Str.ofString "gone") = some gv) (hdv : m₀ (Str.ofString "depth") = some dv)
    (turn : Hold (∀ i v m₁ nx h tk own, (∃ k x, (kvsFrom 0 ρ.ents)[i]? = some (k, x) ∧ (PySem.intKind Prg w).is k v = true) → TbOff own nx → (ρ.D, ρ.od) ∈ nx → LooseJ w src ce oc S C C' τ ρ gv dv i m₁ nx → Fr h₀ env.locals h (fun y => if y = x then some v else m₁ y) → News h₀ env.locals h (nx ++ own) →
      wpAny (model Prg w) A (execs body env) (TbPost h₀ env.locals (fun m' nx' => (ρ.D, ρ.od) ∈ nx' ∧ LooseJ w src ce oc S C C' τ ρ gv dv (i + 1) m' nx') own { s with heap := h, toks := tk } Q) E { s with heap := h, toks := tk }))
    (done : Hold (∀ m₁ nx h tk, LooseJ w src ce oc S C C' τ ρ gv dv (kvsFrom 0 ρ.ents).length m₁ nx → Fr h₀ env.locals h m₁ → News h₀ env.locals h nx → Q .next { s with heap := h, toks := tk })) :
    wpAny (model Prg w) A (pyIter (.ref ρ.D)) (fun it s₂ => LoopAtV Prg w A h₀ env x body Q E it s₂) E s :=
  dict_iter (LooseJ w src ce oc S C C' τ ρ gv dv) hh (.tail _ (.tail _ (.head _))) hd lo F N ⟨_, rfl, ok, hg, hdv⟩ turn.out done.out
end
theorem cut_at {g h : Heap} {L D : Addr} {o : Obj} {ALL : List (Addr × Obj)} (N : News g L h ALL) (hm : (D, o) ∈ ALL) : ∃ FL : List (Addr × Obj), (∀ q ∈ FL, q.1 ≠ D) ∧ News g L h ((D, o) :: FL) ∧ (∀ q ∈ ALL, q.1 ≠ D → q ∈ FL) ∧ ∀ q ∈ FL, q ∈ ALL := by
  refine ⟨ALL.filter (fun q => decide (q.1 ≠ D)), fun q hq => by simpa using (List.mem_filter.mp hq).2, nsub N fun q hq => ?_, fun q hq h => List.mem_filter.mpr ⟨hq, by simpa using h⟩, fun q hq => (List.mem_filter.mp hq).1⟩
  rcases List.mem_cons.mp hq with rfl | hq
  · exact hm
  · exact (List.mem_filter.mp hq).1
theorem ent_ne {ents : List EntC} {i : Nat} {E : EntC} (nd : ((ents.flatMap EntC.led).map (·.1)).Nodup) (hE : ents[i]? = some E) : @Ne Nat E.p E.e := by
  rw [List.map_flatMap, List.Nodup, List.pairwise_flatMap] at nd
  have h2 := nd.1 E (List.mem_of_getElem? hE)
  simp only [EntC.led, List.map_cons, List.map_nil, List.pairwise_cons, List.mem_cons, List.not_mem_nil, or_false] at h2
  exact (h2.1 _ rfl).symm
section
variable {w : World} {src ce L p' : Addr} {oc S : Obj} {i c1 c2 : Nat} {C C' : Core} {τ : TreeC} {ρ : RowsC} {l : List EntC} {E : EntC} {own FL : List (Addr × Obj)} {g h : Heap} {m : Str → Option Value} {gv dv : Value} {ws : List Value}
theorem loose_turn (ok : LooseOk w src ce i C C' τ ρ l) (hE : l[i]? = some E) (N : News g L h ((p', listOf ws.toArray c1) :: (E.e, listOf #[E.vk, .ref p'] c2) :: FL)) (F : Fr g L h m)
    (hF1 : ∀ q ∈ ((ce, oc) :: (src, S) :: (ρ.D, ρ.od) :: (τ.led w ++ l.flatMap EntC.led)) ++ own, q.1 ≠ E.e → q ∈ FL) (hoff : TbOff own ((ce, oc) :: (src, S) :: (ρ.D, ρ.od) :: (τ.led w ++ l.flatMap EntC.led)))
    (hlt : @LT.lt Nat instLTNat E.e p') (l9 : AllLt p' FL) (hws : IntsAre ws (natInts (C'.shape.up (some i)).reverse)) (hg : m (Str.ofString "gone") = some gv) (hdv : m (Str.ofString "depth") = some dv) :
    ∃ nx', (∀ q ∈ nx', q ∈ (p', listOf ws.toArray c1) :: (E.e, listOf #[E.vk, .ref p'] c2) :: FL) ∧ (∀ q ∈ own, q ∈ (p', listOf ws.toArray c1) :: (E.e, listOf #[E.vk, .ref p'] c2) :: FL) ∧ TbOff own nx' ∧ (ρ.D, ρ.od) ∈ nx' ∧ LooseJ w src ce oc S C C' τ ρ gv dv (i + 1) m nx' := by
  have hEm : (E.e, listOf #[E.vk, .ref E.p] E.ee) ∈ τ.led w ++ l.flatMap EntC.led := List.mem_append_right _ (List.mem_flatMap.mpr ⟨E, List.mem_of_getElem? hE, .head _⟩)
  have hl := ktn_ltOf l9
  have hne : ∀ q ∈ own, q.1 ≠ E.e := fun q hq => hoff q hq (E.e, listOf #[E.vk, .ref E.p] E.ee) (.tail _ (.tail _ (.tail _ hEm)))
  have hown : ∀ q ∈ own, q ∈ FL := fun q hq => hF1 q (List.mem_append_right _ hq) (hne q hq)
  have hc := hF1 _ (List.mem_append_left _ (.head _)) fun e => ok.oc _ hEm e.symm
  have hs := hF1 _ (List.mem_append_left _ (.tail _ (.head _))) fun e => ok.os _ hEm e.symm
  have hD := hF1 _ (List.mem_append_left _ (.tail _ (.tail _ (.head _)))) fun e => ok.oD _ hEm e.symm
  have hall : ∀ q ∈ τ.led w ++ l.flatMap EntC.led, q.1 ≠ E.e → q ∈ FL := fun q hq hn => hF1 q (List.mem_append_left _ (.tail _ (.tail _ (.tail _ hq)))) hn
  have ok2 := ok.step (E' := ⟨E.e, p', E.vk, c2, c1, ws⟩) hE rfl rfl hws (fun q hq => by
      by_cases hn : q.1 = E.e
      · rw [hn]; exact Nat.ne_of_lt hlt
      · exact Nat.ne_of_lt (hl q (hall q hq hn))) (Nat.ne_of_gt (hl _ hs)) (Nat.ne_of_gt (hl _ hD)) (Nat.ne_of_gt (hl _ hc))
  have hset : ∀ q ∈ (l.set i ⟨E.e, p', E.vk, c2, c1, ws⟩).flatMap EntC.led, q = (E.e, listOf #[E.vk, .ref p'] c2) ∨ q = (p', listOf ws.toArray c1) ∨ (q ∈ l.flatMap EntC.led ∧ q.1 ≠ E.e) := fun q hq => by
    rcases ents_set_mem ok.nd hE q hq with h | h
    · simp only [EntC.led, List.mem_cons, List.not_mem_nil, or_false] at h
      rcases h with h | h
      · exact .inl h
      · exact .inr (.inl h)
    · exact .inr (.inr h)
  have hτ : ∀ q ∈ τ.led w, q.1 ≠ E.e := fun q hq e => ok.ap (E.e, listOf #[E.vk, .ref E.p] E.ee) (List.mem_flatMap.mpr ⟨E, List.mem_of_getElem? hE, .head _⟩) (List.mem_map.mpr ⟨q, hq, e⟩)
  refine ⟨(ce, oc) :: (src, S) :: (ρ.D, ρ.od) :: (τ.led w ++ (l.set i ⟨E.e, p', E.vk, c2, c1, ws⟩).flatMap EntC.led), fun q hq => ?_, fun q hq => .tail _ (.tail _ (hown q hq)), fun a ha q hq => ?_, .tail _ (.tail _ (.head _)), _, rfl, ok2, hg, hdv⟩
  · simp only [List.mem_cons, List.mem_append] at hq
    rcases hq with rfl | rfl | rfl | hq | hq
    · exact .tail _ (.tail _ hc)
    · exact .tail _ (.tail _ hs)
    · exact .tail _ (.tail _ hD)
    · exact .tail _ (.tail _ (hall q (List.mem_append_left _ hq) (hτ q hq)))
    · rcases hset q hq with rfl | rfl | h
      · exact .tail _ (.head _)
      · exact .head _
      · exact .tail _ (.tail _ (hall q (List.mem_append_right _ h.1) h.2))
  · simp only [List.mem_cons, List.mem_append] at hq
    rcases hq with rfl | rfl | rfl | hq | hq
    · exact hoff a ha _ (.head _)
    · exact hoff a ha _ (.tail _ (.head _))
    · exact hoff a ha _ (.tail _ (.tail _ (.head _)))
    · exact hoff a ha q (.tail _ (.tail _ (.tail _ (List.mem_append_left _ hq))))
    · rcases hset q hq with rfl | rfl | h
      · exact hne a ha
      · exact Nat.ne_of_lt (hl a (hown a ha))
      · exact hoff a ha q (.tail _ (.tail _ (.tail _ (List.mem_append_right _ h.1))))
theorem loose_keep {o : Obj} (ok : LooseOk w src ce i C C' τ ρ l) (hE : l[i]? = some E) (ho : o = listOf #[E.vk, .ref E.p] E.ee) (hF1 : ∀ q ∈ ((ce, oc) :: (src, S) :: (ρ.D, ρ.od) :: (τ.led w ++ l.flatMap EntC.led)) ++ own, q.1 ≠ E.e → q ∈ FL) (hoff : TbOff own ((ce, oc) :: (src, S) :: (ρ.D, ρ.od) :: (τ.led w ++ l.flatMap EntC.led)))
    (N₁ : News g L h' (((ce, oc) :: (src, S) :: (ρ.D, ρ.od) :: (τ.led w ++ l.flatMap EntC.led)) ++ own)) (hu : (C'.shape.up (some i)).reverse = (C.shape.up (some i)).reverse) (hg : m (Str.ofString "gone") = some gv) (hdv : m (Str.ofString "depth") = some dv) :
    ∃ nx', (∀ q ∈ nx', q ∈ (E.e, o) :: FL) ∧ (∀ q ∈ own, q ∈ (E.e, o) :: FL) ∧ TbOff own nx' ∧ (ρ.D, ρ.od) ∈ nx' ∧ LooseJ w src ce oc S C C' τ ρ gv dv (i + 1) m nx' := by
  have hEm : (E.e, listOf #[E.vk, .ref E.p] E.ee) ∈ ((ce, oc) :: (src, S) :: (ρ.D, ρ.od) :: (τ.led w ++ l.flatMap EntC.led)) ++ own := List.mem_append_left _ (.tail _ (.tail _ (.tail _ (List.mem_append_right _ (List.mem_flatMap.mpr ⟨E, List.mem_of_getElem? hE, .head _⟩)))))
  have gen : ∀ q ∈ ((ce, oc) :: (src, S) :: (ρ.D, ρ.od) :: (τ.led w ++ l.flatMap EntC.led)) ++ own, q ∈ (E.e, o) :: FL := fun q hq => by
    by_cases e : q.1 = E.e
    · have h1 := (N₁ q hq).1
      rw [e, (N₁ _ hEm).1] at h1
      rw [show q = (E.e, o) from Prod.ext e (by rw [ho]; exact (Option.some.inj h1).symm)]
      exact .head _
    · exact .tail _ (hF1 q hq e)
  exact ⟨_, fun q hq => gen q (List.mem_append_left _ hq), fun q hq => gen q (List.mem_append_right _ hq), hoff, .tail _ (.tail _ (.head _)), l, rfl, ok.same hu, hg, hdv⟩
theorem LooseOk.fin {y : Int} (ok : LooseOk w src ce i C C' τ ρ l) (hi : C.n ≤ i) (hn : C'.n = C.n) (hk : C'.kind = C.kind) (y0 : 0 ≤ y) (y1 : y < 2147483648) (st : Store w C' kName pName 8 τ) (h10 : C.n ≤ 10) (hd : ρ.od.IsDictOf (PySem.intKind Prg w) (kvsFrom 0 ρ.ents)) (lo : (ρ.D == sysModules) = false) (sD : @Ne Nat src ρ.D) :
    WOk w src C' τ ⟨ρ.D, ρ.od, l⟩ y where
  y0 := y0
  y1 := y1
  st := st
  n := by rw [hn]; exact h10
  rows := ⟨by rw [show C'.shape.n = C'.n from rfl, hn]; exact ok.len, by rw [ok.kv]; exact hd, lo, fun j hj => by
    have hj' : j < C.n := by rw [← hn]; exact hj
    obtain ⟨E, h1, h2, h3⟩ := ok.ent j hj'
    rw [if_pos (Nat.lt_of_lt_of_le hj' hi)] at h3
    exact ⟨E, h1, by rw [show C'.shape.kind j = C'.kind j from rfl, hk]; exact h2, h3⟩⟩
  sD := sD
  os := ok.os
  oD := ok.oD
  ap := ok.ap
  nd := ok.nd
end
end
section
example : True := by
  w_top off
  k_with_none
  k_with "!c1" => first | assumption | exact And.right (by k_extra "!c2") | fail
  k_with "!c2" => first | assumption | exact And.right (by k_extra "!c3") | fail
  k_with "!c3" => first | assumption | exact And.right (by k_extra "!c4") | fail
  k_with "!c4" => first | assumption | exact And.right (by k_extra "!c5") | fail
  k_with "!c5" => first | assumption | exact And.right (by k_extra "!c6") | fail
  k_with "!c6" => first | assumption | exact And.right (by k_extra "!c7") | fail
  k_with "!c7" => first | assumption | exact And.right (by k_extra "!c8") | fail
  k_with "!c8" => assumption
  k_with "!lt9" => with_reducible first | exact And.left (by k_extra "!c1") | exact And.right (by k_extra "!c1") | fail
  k_with "!omega" => with_reducible first | exact lt_dp (by assumption) (by with_unfolding_all exact rfl) | exact lt_un (by assumption) (by with_unfolding_all exact rfl) | assumption | exact Ne.symm (by assumption) | exact Nat.ne_of_lt (by assumption) | exact Nat.ne_of_gt (by assumption) | exact le_big (by assumption) (by with_unfolding_all exact rfl) | exact le_big2 (by assumption) (by with_unfolding_all exact rfl) | exact lt_big (by assumption) (by with_unfolding_all exact rfl) | exact Nat.le_of_ble_eq_true (by with_unfolding_all exact rfl) | exact Nat.ne_of_gt (lt_s (by assumption)) | exact Nat.ne_of_gt (lt_s (lt_s (by assumption))) | exact Nat.ne_of_gt (lt_s (lt_s (lt_s (by assumption)))) | exact Nat.ne_of_lt (by k_extra "!lt9") | exact Nat.ne_of_gt (by k_extra "!lt9") | (refine Nat.lt_of_lt_of_le ?_ (Nat.le_refl _); k_extra "!lt9") | fail
  k_with "!call builtin:len" => (k_here; (with_reducible show wpAny _ _ (call (Value.builtin "len") [Value.ref _]) _ _ _); k_dflt (refine' L_len ?N ?m ?z ?_; (case N => k_asm); (case m => k_mem); (case z => omega); k_whole))
  k_with "!item" => first | (k_here; (with_reducible show wpAny _ _ (subscriptTail _ _ (Value.ref _) (Value.int _ _)) _ _ _); k_dflt (refine' kim_list ?N ?m ?c ?d ?z ?f ?x ?_; (case N => k_asm); (case m => k_mem); (case c => rfl); (case d => rfl); (case z => omega); (case f => omega); (case x => (try simp only [Int.toNat_natCast]); first | assumption | rfl | exact List.getElem?_eq_getElem (by omega)); k_whole)) | (k_here; (with_reducible show wpAny _ _ (subscriptTail _ _ (Value.ref _) (Value.int _ _)) _ _ _); k_dflt (refine' kda_item (knd := PySem.intKind _ _) ?N ?m ?d (intKind_is _ _ _ _) ?v ?_; (case N => k_asm); (case d => assumption); (case m => k_mem); (case v => assumption); k_whole))
  k_with "!subscriptTail" => k_extra "!item"
  k_with "!subscriptTail Name Constant ref int" => k_extra "!item"
  k_with "!subscriptTail Name Name ref int" => k_extra "!item"
  k_with "!k_all" => first | exact ne_of_allLt (by assumption) | exact ne_of_allLt (And.right (by assumption)) | exact ne_of_allLt (And.right (And.right (by assumption)))
  k_with "!sub" => first | exact fun _ h => h | (with_reducible assumption) | exact sub_app (by assumption) | exact sub_app (fun _ h => h) | exact (fun _ h => List.mem_append_right _ h) | (refine sub_cc ?_; k_extra "!sub") | (refine sub_tl ?_; k_extra "!sub")
  k_with "!k_handed" => with_reducible assumption
  k_with "!k_all" => first | exact ne_of_allNe (by assumption) | exact ne_of_allNe (And.right (by assumption)) | exact ne_of_allNe (And.right (And.right (by assumption)))
  k_with "!call ref" => k_extra "call ref"
  k_with "!k_all" => first | exact ne_of_lts2 (by assumption) | (with_reducible assumption)
  k_with "!k_mem" => assumption
  k_with "!callWith ref" => (k_here; k_dflt (first | (refine' callWith_K ?k1 ?k2 ?_; (case k1 => k_asm); (case k2 => k_is); k_whole) | (refine' callWith_K0 ?k1 ?k2 ?_; (case k1 => k_in); (case k2 => k_is); k_whole) | (refine' callWith_M0 ?k1 ?k2 ?_; (case k1 => k_meth); (case k2 => k_is); k_whole; try dsimp only [List.nil_append, List.cons_append]) | (refine' callWith_M ?k1 ?k2 ?k3 ?k4 ?_; (case k1 => k_asm); (case k2 => k_asm); (case k3 => k_mem); (case k4 => k_is); k_whole) | (refine' callWith_F ?k1 ?_; (case k1 => exact FnAt.of (by k_asm) (by k_mem)); k_whole)))
  k_with "!exec For Name Name cons nil" => k_extra "exec For"
  k_with "!pyIter ref" => k_extra "pyIter ref"
  k_with "!revslice" => (k_here; (with_reducible show wpAny _ _ (subscriptTail _ (PySem.Expr.Slice none none (some _) _) (Value.ref _) (Value.ref _)) _ _ _); k_dflt (refine' krv_ints ?F ?N ?l ?k ?i ?_ ?s ?t ?z; (case F => k_asm); (case N => k_asm); (case l => exact L_isList (by k_asm) (by k_mem)); (case k => exact IsPart.int _ _); (case i => assumption); (case s => with_unfolding_all rfl); (case t => (intro _; with_unfolding_all rfl)); (case z => (rw [List.size_toArray, sizeLine_eq]; omega))); intro zqD zqws zqh zqF zqN zql1 zqhI zqhC; (have zqhW := IntsAre.length zqhI); (replace zql1 := allLt_of zql1); (try simp only [AllLt, and_true] at zql1))
  k_with "!subscriptTail Name Slice ref ref" => k_extra "!revslice"
  k_with "!compareOp In int ref" => (k_here; k_dflt (refine' in_list_ints ?hl ?hi ?_; (case hl => exact L_isList (by k_asm) (by k_mem)); (case hi => assumption); k_whole))
  k_with "!exec Assign cons ListComp" => (k_here; (rename Fr _ _ _ _ => zqlF9); k_dflt (refine comp_assign zqlF9 (by rfl) (by with_unfolding_all rfl) (by with_unfolding_all rfl) (by decide) (by rfl) (by decide) (by rfl) (by rfl) (by rfl) ?_))
  k_with "!eval Name" => (k_here; kc_free; k_dflt (refine' nameX_F ?N ?c ?m ?d ?_ ?a ?b; (case a => rfl); (case b => rfl); (case N => k_asm); (case c => rfl); (case m => k_mem); (case d => k_asm); k_whole))
  k_with "!call builtin:len" => (k_here; (with_reducible show wpAny _ _ (call (Value.builtin "len") [Value.ref _]) _ _ _); k_dflt (refine' L_len ?N ?m ?z ?_; (case N => k_asm); (case m => k_mem); (case z => ((simp only [List.length_append, List.length_cons, List.length_nil]); omega)); k_whole))
  trivial
section
example : True := by
  k_with "!binaryOp Add ref ref" => (k_here; (with_reducible show wpAny _ _ (binaryOp _ (Value.ref _) (Value.ref _)) _ _ _); k_dflt (refine' add_my ?F ?N ?a ?b ?z ?_; (case F => k_asm); (case N => k_asm); (case a => k_mem); (case b => k_mem); (case z => ((try simp only [List.length_append, List.length_cons, List.length_nil]); omega)); k_whole); intro zqD zqh zqF zqN zql1; (try simp only [AllLt, and_true] at zql1))
  k_with "!k_mem" => exact List.mem_append_left _ (by assumption)
  k_with "!U2" => ((case B => assumption); (case F => k_asm); (case X => assumption); (case T => assumption); (case hf => exact rfl); (case hk => exact rfl); (case N => k_asm); (case U => k_updF); (case hdp => ((try dsimp only); omega)); (case hun => ((try dsimp only); omega)); k_whole)
  k_with "!call ref" => (k_here; (rename True => zqmark9); (with_reducible show wpAny _ _ (call (Value.ref 327) _) _ _ _); k_dflt (refine' use_upd (take_spec ?h1 ?h2 ?h3 ?h4) ?B ?F ?X ?T ?hf ?hk ?N ?U ?hdp ?hun ?_; (case h1 => omega); (case h2 => omega); (case h3 => assumption); (case h4 => assumption); k_extra "!U2"); rintro zqv zqo zqh zqtk zqF zqN ⟨zqr, zqt, zqx, zqtx, zqy, zqty, zqn, zqev, zqr0, zqr1, zqy0, zqy1, zqeo⟩; subst zqev; subst zqeo; (try dsimp only))
  k_with "!call ref" => (k_here; (rename True => zqmark9); (with_reducible show wpAny _ _ (call (Value.ref 334) _) _ _ _); k_dflt (refine' use_one ?h1 ?h2 ?h3 ?h4 ?h5 ?h6 ?B ?F ?X ?T ?hf ?hk ?N ?U ?hdp ?hun ?_; (case B => assumption); (case F => k_asm); (case X => assumption); (case T => assumption); (case hf => exact rfl); (case hk => exact rfl); (case N => k_asm); (case h6 => k_mem); (case U => k_updF); (case h1 => (first | ((try simp only [List.length_append, List.length_cons, List.length_nil]); omega) | ((rename (IntsAre _ (List.drop _ _)) => zqhI9); (have zqhW9 := IntsAre.length zqhI9); (simp only [natInts, List.map_cons, List.drop_succ_cons, List.drop_zero, List.length_map] at zqhW9); omega))); (case h2 => (first | ((try simp only [List.length_append, List.length_cons, List.length_nil]); omega) | ((rename (IntsAre _ (List.drop _ _)) => zqhI9); (have zqhW9 := IntsAre.length zqhI9); (simp only [natInts, List.map_cons, List.drop_succ_cons, List.drop_zero, List.length_map] at zqhW9); omega))); (case h3 => assumption); (case h4 => assumption); (case h5 => k_ne); (case hdp => ((try dsimp only); omega)); (case hun => ((try dsimp only); omega)); k_whole); intro zqv zqx zqtx zqy zqty zqn zqh zqtk zqF zqN zqy0 zqy1 zqhv)
  k_with "!setItem ref int" => (k_here; (rename True => zqmark7); k_dflt (refine' kda_set (knd := PySem.intKind _ _) ?F ?N ?U ?d (intKind_is _ _ _ _) ?z ?_; (case F => k_asm); (case N => k_asm); (case U => k_updF); (case d => assumption); (case z => (rw [sizeLine_eq]; omega)); k_whole); intro zqh zqo zqF zqN zqhd; (try dsimp only at zqN))
  trivial
set_option maxHeartbeats 8000000 in
theorem loose_spec {w : World} {src : Addr} {Z : LawC} (W : Z.Ok w src) {h : Heap} :
    Spec w (.ref 346) [.ref src, .ref Z.τ.aT, .ref Z.ρ.D] 20 (Z.led w src)
      (fun v h' => ∃ Z' : LawC, (Z'.Ok w src ∧ Z'.τ.aT = Z.τ.aT ∧ Z'.ρ.D = Z.ρ.D) ∧ ∀ q ∈ Z'.led w src, h'.get? q.1 = some q.2 ∧ (q.1 ∈ (Z.led w src).map (·.1) ∨ h.get? q.1 = none)) h := by
  obtain ⟨C, τ, ρ, x, y, tx, ty, n⟩ := Z
  dsimp only [LawC.Ok] at W
  dsimp only [LawC.led]
  refine enterC (binds := [(Str.ofString "source", .ref src), (Str.ofString "tree", .ref τ.aT), (Str.ofString "rows", .ref ρ.D)]) (by k_is) (by k_is) (fun s => BindsTo.of_eq rfl) (by rfl) (by decide +kernel) rfl rfl rfl ?_
  intro dp un gd env outer A₀ base g L' h₁ p' loose mean mg mb gs ds tk os cells B X T F N Y lt hdp hun kp
  k_fold
  k_with_none
  k_with "!c1" => first | assumption | exact And.right (by k_extra "!c2") | fail
  k_with "!c2" => first | assumption | exact And.right (by k_extra "!c3") | fail
  k_with "!c3" => first | assumption | exact And.right (by k_extra "!c4") | fail
  k_with "!c4" => first | assumption | exact And.right (by k_extra "!c5") | fail
  k_with "!c5" => first | assumption | exact And.right (by k_extra "!c6") | fail
  k_with "!c6" => first | assumption | exact And.right (by k_extra "!c7") | fail
  k_with "!c7" => first | assumption | exact And.right (by k_extra "!c8") | fail
  k_with "!c8" => assumption
  k_with "!lt9" => with_reducible first | exact And.left (by k_extra "!c1") | exact And.right (by k_extra "!c1") | fail
  k_with "!omega" => with_reducible first | exact lt_dp (by assumption) (by with_unfolding_all exact rfl) | exact lt_un (by assumption) (by with_unfolding_all exact rfl) | assumption | exact Ne.symm (by assumption) | exact Nat.ne_of_lt (by assumption) | exact Nat.ne_of_gt (by assumption) | exact le_big (by assumption) (by with_unfolding_all exact rfl) | exact le_big2 (by assumption) (by with_unfolding_all exact rfl) | exact lt_big (by assumption) (by with_unfolding_all exact rfl) | exact Nat.le_of_ble_eq_true (by with_unfolding_all exact rfl) | exact Nat.ne_of_gt (lt_s (by assumption)) | exact Nat.ne_of_gt (lt_s (lt_s (by assumption))) | exact Nat.ne_of_gt (lt_s (lt_s (lt_s (by assumption)))) | exact Nat.ne_of_lt (by k_extra "!lt9") | exact Nat.ne_of_gt (by k_extra "!lt9") | (refine Nat.lt_of_lt_of_le ?_ (Nat.le_refl _); k_extra "!lt9") | fail
  k_with "!call builtin:len" => (k_here; (with_reducible show wpAny _ _ (call (Value.builtin "len") [Value.ref _]) _ _ _); k_dflt (refine' L_len ?N ?m ?z ?_; (case N => k_asm); (case m => k_mem); (case z => omega); k_whole))
  k_with "!item" => first | (k_here; (with_reducible show wpAny _ _ (subscriptTail _ _ (Value.ref _) (Value.int _ _)) _ _ _); k_dflt (refine' kim_list ?N ?m ?c ?d ?z ?f ?x ?_; (case N => k_asm); (case m => k_mem); (case c => rfl); (case d => rfl); (case z => omega); (case f => omega); (case x => (try simp only [Int.toNat_natCast]); first | assumption | rfl | exact List.getElem?_eq_getElem (by omega)); k_whole)) | (k_here; (with_reducible show wpAny _ _ (subscriptTail _ _ (Value.ref _) (Value.int _ _)) _ _ _); k_dflt (refine' kda_item (knd := PySem.intKind _ _) ?N ?m ?d (intKind_is _ _ _ _) ?v ?_; (case N => k_asm); (case d => assumption); (case m => k_mem); (case v => assumption); k_whole))
  k_with "!subscriptTail" => k_extra "!item"
  k_with "!subscriptTail Name Constant ref int" => k_extra "!item"
  k_with "!subscriptTail Name Name ref int" => k_extra "!item"
  k_with "!k_all" => first | exact ne_of_allLt (by assumption) | exact ne_of_allLt (And.right (by assumption)) | exact ne_of_allLt (And.right (And.right (by assumption)))
  k_with "!sub" => first | exact fun _ h => h | (with_reducible assumption) | exact sub_app (by assumption) | exact sub_app (fun _ h => h) | exact (fun _ h => List.mem_append_right _ h) | (refine sub_cc ?_; k_extra "!sub") | (refine sub_tl ?_; k_extra "!sub")
  k_with "!k_handed" => with_reducible assumption
  k_with "!k_all" => first | exact ne_of_allNe (by assumption) | exact ne_of_allNe (And.right (by assumption)) | exact ne_of_allNe (And.right (And.right (by assumption)))
  k_with "!call ref" => k_extra "call ref"
  k_with "!k_all" => first | exact ne_of_lts2 (by assumption) | (with_reducible assumption)
  k_with "!k_mem" => assumption
  k_with "!callWith ref" => (k_here; k_dflt (first | (refine' callWith_K ?k1 ?k2 ?_; (case k1 => k_asm); (case k2 => k_is); k_whole) | (refine' callWith_K0 ?k1 ?k2 ?_; (case k1 => k_in); (case k2 => k_is); k_whole) | (refine' callWith_M0 ?k1 ?k2 ?_; (case k1 => k_meth); (case k2 => k_is); k_whole; try dsimp only [List.nil_append, List.cons_append]) | (refine' callWith_M ?k1 ?k2 ?k3 ?k4 ?_; (case k1 => k_asm); (case k2 => k_asm); (case k3 => k_mem); (case k4 => k_is); k_whole) | (refine' callWith_F ?k1 ?_; (case k1 => exact FnAt.of (by k_asm) (by k_mem)); k_whole)))
  k_with "!exec For Name Name cons nil" => k_extra "exec For"
  k_with "!pyIter ref" => k_extra "pyIter ref"
  k_with "!revslice" => (k_here; (with_reducible show wpAny _ _ (subscriptTail _ (PySem.Expr.Slice none none (some _) _) (Value.ref _) (Value.ref _)) _ _ _); k_dflt (refine' krv_ints ?F ?N ?l ?k ?i ?_ ?s ?t ?z; (case F => k_asm); (case N => k_asm); (case l => exact L_isList (by k_asm) (by k_mem)); (case k => exact IsPart.int _ _); (case i => assumption); (case s => with_unfolding_all rfl); (case t => (intro _; with_unfolding_all rfl)); (case z => (rw [List.size_toArray, sizeLine_eq]; omega))); intro zqD zqws zqh zqF zqN zql1 zqhI zqhC; (have zqhW := IntsAre.length zqhI); (replace zql1 := allLt_of zql1); (try simp only [AllLt, and_true] at zql1))
  k_with "!subscriptTail Name Slice ref ref" => k_extra "!revslice"
  k_with "!compareOp In int ref" => (k_here; k_dflt (refine' in_list_ints ?hl ?hi ?_; (case hl => exact L_isList (by k_asm) (by k_mem)); (case hi => assumption); k_whole))
  k_with "!exec Assign cons ListComp" => (k_here; (rename Fr _ _ _ _ => zqlF9); k_dflt (refine comp_assign zqlF9 (by rfl) (by with_unfolding_all rfl) (by with_unfolding_all rfl) (by decide) (by rfl) (by decide) (by rfl) (by rfl) (by rfl) ?_))
  k_with "!eval Name" => (k_here; kc_free; k_dflt (refine' nameX_F ?N ?c ?m ?d ?_ ?a ?b; (case a => rfl); (case b => rfl); (case N => k_asm); (case c => rfl); (case m => k_mem); (case d => k_asm); k_whole))
  k_with "!call builtin:len" => (k_here; (with_reducible show wpAny _ _ (call (Value.builtin "len") [Value.ref _]) _ _ _); k_dflt (refine' L_len ?N ?m ?z ?_; (case N => k_asm); (case m => k_mem); (case z => ((simp only [List.length_append, List.length_cons, List.length_nil]); omega)); k_whole))
  k_with "!binaryOp Add ref ref" => (k_here; (with_reducible show wpAny _ _ (binaryOp _ (Value.ref _) (Value.ref _)) _ _ _); k_dflt (refine' add_my ?F ?N ?a ?b ?z ?_; (case F => k_asm); (case N => k_asm); (case a => k_mem); (case b => k_mem); (case z => ((try simp only [List.length_append, List.length_cons, List.length_nil]); omega)); k_whole); intro zqD zqh zqF zqN zql1; (try simp only [AllLt, and_true] at zql1))
  k_with "!k_mem" => exact List.mem_append_left _ (by assumption)
  k_with "!U2" => ((case B => assumption); (case F => k_asm); (case X => assumption); (case T => assumption); (case hf => exact rfl); (case hk => exact rfl); (case N => k_asm); (case U => k_updF); (case hdp => ((try dsimp only); omega)); (case hun => ((try dsimp only); omega)); k_whole)
  k_with "!call ref" => (k_here; (rename True => zqmark9); (with_reducible show wpAny _ _ (call (Value.ref 327) _) _ _ _); k_dflt (refine' use_upd (take_spec ?h1 ?h2 ?h3 ?h4) ?B ?F ?X ?T ?hf ?hk ?N ?U ?hdp ?hun ?_; (case h1 => omega); (case h2 => omega); (case h3 => assumption); (case h4 => assumption); k_extra "!U2"); rintro zqv zqo zqh zqtk zqF zqN ⟨zqr, zqt, zqx, zqtx, zqy, zqty, zqn, zqev, zqr0, zqr1, zqy0, zqy1, zqeo⟩; subst zqev; subst zqeo; (try dsimp only))
  k_with "!call ref" => (k_here; (rename True => zqmark9); (with_reducible show wpAny _ _ (call (Value.ref 334) _) _ _ _); k_dflt (refine' use_one ?h1 ?h2 ?h3 ?h4 ?h5 ?h6 ?B ?F ?X ?T ?hf ?hk ?N ?U ?hdp ?hun ?_; (case B => assumption); (case F => k_asm); (case X => assumption); (case T => assumption); (case hf => exact rfl); (case hk => exact rfl); (case N => k_asm); (case h6 => k_mem); (case U => k_updF); (case h1 => (first | ((try simp only [List.length_append, List.length_cons, List.length_nil]); omega) | ((rename (IntsAre _ (List.drop _ _)) => zqhI9); (have zqhW9 := IntsAre.length zqhI9); (simp only [natInts, List.map_cons, List.drop_succ_cons, List.drop_zero, List.length_map] at zqhW9); omega))); (case h2 => (first | ((try simp only [List.length_append, List.length_cons, List.length_nil]); omega) | ((rename (IntsAre _ (List.drop _ _)) => zqhI9); (have zqhW9 := IntsAre.length zqhI9); (simp only [natInts, List.map_cons, List.drop_succ_cons, List.drop_zero, List.length_map] at zqhW9); omega))); (case h3 => assumption); (case h4 => assumption); (case h5 => k_ne); (case hdp => ((try dsimp only); omega)); (case hun => ((try dsimp only); omega)); k_whole); intro zqv zqx zqtx zqy zqty zqn zqh zqtk zqF zqN zqy0 zqy1 zqhv)
  k_with "!setItem ref int" => (k_here; (rename True => zqmark7); k_dflt (refine' kda_set (knd := PySem.intKind _ _) ?F ?N ?U ?d (intKind_is _ _ _ _) ?z ?_; (case F => k_asm); (case N => k_asm); (case U => k_updF); (case d => assumption); (case z => (rw [sizeLine_eq]; omega)); k_whole); intro zqh zqo zqF zqN zqhd; (try dsimp only at zqN))
  k_cells Y
  simp only [List.cons_append, List.nil_append] at N
  obtain ⟨R, hR⟩ : ∃ R, R = τ.led w ++ ρ.tail := ⟨_, rfl⟩
  rw [← hR] at N
  have hRs : ∀ q ∈ R, q.1 ≠ src := fun q hq => W.os q (hR ▸ hq)
  have hRD : ∀ q ∈ R, q.1 ≠ ρ.D := fun q hq => W.oD q (hR ▸ hq)
  have hRc : ∀ q ∈ R, q.1 ≠ L' + 1 := fun q hq => Nat.ne_of_lt (Nat.lt_succ_of_lt (lt q (.tail _ (.tail _ (hR ▸ hq)))))
  have hsL : @LT.lt Nat instLTNat src L' := lt _ (.head _)
  have hDL : @LT.lt Nat instLTNat ρ.D L' := lt _ (.tail _ (.head _))
  have sD := W.sD
  have y0 := W.y0
  have y1 := W.y1
  have hn10 := W.n
  have hS := W.st.of
  have hdict := W.rows.dict
  have hklen : (kvsFrom 0 ρ.ents).length = C.n := by rw [kvsFrom_len]; exact W.rows.len
  have hER : ∀ {k : Nat} {E : EntC}, ρ.ents[k]? = some E → ∀ q ∈ E.led, q ∈ R := fun hE q hq => by rw [hR]; exact List.mem_append_right _ (List.mem_flatMap.mpr ⟨_, List.mem_of_getElem? hE, hq⟩)
  k_steps
  rename News _ _ _ _ => lN
  refine src_dict_ro (fun k ys => IntsAre ys (natInts ((List.range k).filter (fun c => (C.par c).isSome)))) rfl (by assumption) lN (by k_mem) hdict W.rows.lo (by omega) ⟨.nil⟩ ?turn ?fin
  · refine ⟨fun g₂ k ys hk9 hJ v I oI C₉ oC Da m₂ h₂ tk₂ hP hO hm F₂ N₂ off ne => ?_⟩
    obtain ⟨t₂, rfl⟩ := kv_key hP
    have hkn : k < C.n := by omega
    obtain ⟨Ek, hEk, ⟨tkk2, hkk⟩, hpvk⟩ := W.rows.ent k hkn
    have hulk := Shape.up_len hS (show k < C.shape.n from hkn)
    have hsn : C.shape.n = C.n := rfl
    have hplk := hpvk.length
    have hl7 : (natInts (C.shape.up (some k)).reverse).length = (C.shape.up (some k)).length := by simp [natInts]
    have hpzk : Ek.pv.length < 500 := by omega
    have hvk : valueAt (kvsFrom 0 ρ.ents) (k : Int) = some (.ref Ek.e) := by simpa using kvsFrom_value ρ.ents 0 k hEk
    have hEk1 := hER hEk _ (.head _)
    have hEk2 := hER hEk _ (.tail _ (.head _))
    have hsh := Shape.short hS (show k < C.shape.n from hkn)
    have hsp : C.shape.par k = C.par k := rfl
    rw [hsp] at hsh
    k_steps
    · rename News _ _ _ _ => N₃
      rename (1 < _) => h9
      refine ⟨_, _, rfl, by assumption, nsub N₃ (by walk_at "sub"), ?_⟩
      have h8 : C.par k ≠ none := fun e => by have := hsh.mpr e; omega
      rw [List.range_succ, List.filter_append, List.filter_cons, if_pos (Option.isSome_iff_ne_none.mpr h8), List.filter_nil, natInts_snoc]
      exact ints_snoc hJ
    · rename News _ _ _ _ => N₃
      rename (¬ 1 < _) => h9
      refine ⟨_, _, rfl, by assumption, nsub N₃ (by walk_at "sub"), ?_⟩
      have h8 : C.par k = none := hsh.mp (by omega)
      rw [List.range_succ, List.filter_append, List.filter_cons, if_neg (by rw [h8]; simp), List.filter_nil, List.append_nil]
      exact hJ
  · refine ⟨fun g₂ ys hJ => ?_⟩
    have hyl : ys.length ≤ C.n := by rw [hJ.length, hklen]; simp only [natInts, List.length_map]; exact Nat.le_trans (List.length_filter_le _ _) (by simp)
    have mark9 : True := trivial
    clear lN
    k_steps
    rename True => mark8
    clear mark8
    rename Fr _ _ _ _ => F1
    rename News _ _ _ _ => N1
    rename (_ ∈ ys ++ [Value.none]) => hv1
    obtain ⟨o, hpar, hpo⟩ := par_of hJ hv1
    clear hv1
    cases o with
    | none =>
      have e : _ = Value.none := hpar
      subst e
      k_steps
      have hNe : ∀ S : Obj, ∀ q ∈ (src, S) :: (ρ.D, ρ.od) :: (τ.led w ++ ρ.tail), q ∈ (src, S) :: (ρ.D, ρ.od) :: R := fun S q hq => by rw [hR]; exact hq
      exact ⟨_, _, _, rfl, F1, ⟨C, τ, ρ, _, _, _, _, _⟩, ⟨⟨by assumption, by assumption, W.st, W.n, W.rows, W.sD, W.os, W.oD, W.ap, W.nd⟩, rfl, rfl⟩, fun q hq => ⟨(N1 q (.tail _ (.tail _ (.tail _ (.tail _ (hNe _ q hq)))))).1, in_or_new kp N1 (.tail _ (.tail _ (.tail _ (.tail _ (hNe _ q hq)))))⟩⟩
    | some gn =>
      obtain ⟨tg, e⟩ := hpar
      subst e
      k_with "call ref" => refine Hold.out ?_
      k_steps
      refine ⟨?_⟩

      rename Fr _ _ _ _ => F1
      rename News _ _ _ _ => N1
      have hgm := List.mem_filter.mp (hpo gn rfl)
      have hgn : gn < C.n := by have := List.mem_range.mp hgm.1; omega
      obtain ⟨j, hgp⟩ := Option.isSome_iff_exists.mp hgm.2
      have N2 := nsub N1 (l := τ.led w ++ _ :: _ :: _ :: ρ.tail) fun q hq => by
        rw [hR]
        simp only [List.mem_cons, List.mem_append] at hq ⊢
        rcases hq with h | h | h | h | h
        · exact .inr (.inr (.inr (.inr (.inr (.inr (.inl h))))))
        · exact .inr (.inr (.inr (.inl h)))
        · exact .inr (.inr (.inr (.inr (.inl h))))
        · exact .inr (.inr (.inr (.inr (.inr (.inl h)))))
        · exact .inr (.inr (.inr (.inr (.inr (.inr (.inr h))))))
      clear N1
      have hap : ∀ (oc S : Obj), ∀ q ∈ (L' + 1, oc) :: (src, S) :: (ρ.D, ρ.od) :: ρ.tail, q.1 ∉ (τ.led w).map (·.1) := fun oc S q hq hm => by
        obtain ⟨p, hp, e⟩ := List.mem_map.mp hm
        simp only [List.mem_cons] at hq
        rcases hq with rfl | rfl | rfl | hq
        · exact hRc p (hR ▸ List.mem_append_left _ hp) e
        · exact W.os p (List.mem_append_left _ hp) e
        · exact W.oD p (List.mem_append_left _ hp) e
        · exact W.ap q hq hm
      refine use_tree (remove_spec W.st hgn hgp) B F1 X T rfl rfl N2 (hap _ _) (by omega) (by omega) ?_
      intro v1 τ1 h1 tk1 F2 N3 ap1 ⟨hxT, H1⟩
      replace N3 := rearr N3
      clear F1 N2 hap
      obtain ⟨Eg, hEg, _, hpvg⟩ := W.rows.ent gn hgn
      have hvg : valueAt (kvsFrom 0 ρ.ents) (gn : Int) = some (.ref Eg.e) := by simpa using kvsFrom_value ρ.ents 0 gn hEg
      have hEg0 : ∀ q ∈ Eg.led, q ∈ τ1.led w ++ ρ.tail := fun q hq => List.mem_append_right _ (List.mem_flatMap.mpr ⟨_, List.mem_of_getElem? hEg, hq⟩)
      have hEg1 := hEg0 _ (.head _)
      have hEg2 := hEg0 _ (.tail _ (.head _))
      have hEgl : Eg.pv.length = (C.shape.up (some gn)).length := by rw [hpvg.length]; simp [natInts]
      have hgul := Shape.up_len hS (show gn < C.shape.n from hgn)
      have hsn : C.shape.n = C.n := rfl
      have hEgz : Eg.pv.length < 500 := by omega
      have hup1 : 0 < (C.shape.up (some gn)).length := by rw [Shape.up_some hS (show gn < C.shape.n from hgn)]; simp
      have hcell : ∀ q ∈ ρ.tail, q.1 ≠ L' + 1 := fun q hq => hRc q (hR ▸ List.mem_append_right _ hq)
      have ok0 : LooseOk w src (L' + 1) 0 C (C.cut gn) τ1 ρ ρ.ents := ⟨rfl, W.rows.len, fun i hi => by
          obtain ⟨E, h1, h2, h3⟩ := W.rows.ent i hi
          exact ⟨E, h1, h2, by rw [if_neg (Nat.not_lt_zero _)]; exact h3⟩,
        fun p hp => (List.mem_append.mp hp).elim (fun h e => ap1 _ (.tail _ (.head _)) (List.mem_map.mpr ⟨p, h, e⟩)) fun h => W.os p (List.mem_append_right _ h),
        fun p hp => (List.mem_append.mp hp).elim (fun h e => ap1 _ (.tail _ (.tail _ (.head _))) (List.mem_map.mpr ⟨p, h, e⟩)) fun h => W.oD p (List.mem_append_right _ h),
        fun p hp => (List.mem_append.mp hp).elim (fun h e => ap1 _ (.head _) (List.mem_map.mpr ⟨p, h, e⟩)) fun h => hcell p h,
        fun q hq => ap1 q (.tail _ (.tail _ (.tail _ hq))), W.nd⟩
      k_with "exec For" => refine Hold.out ?_
      k_steps
      refine ⟨?_⟩
      refine For_invV g rfl rfl ?_
      k_with "pyIter ref" => refine Hold.out ?_
      k_steps
      refine ⟨?_⟩
      rename Fr _ _ _ _ => F1
      rename News _ _ _ _ => N1
      refine loose_iter rfl F1 N1 hdict W.rows.lo ok0 rfl rfl ⟨?turn2⟩ ⟨?done2⟩
      · k_with_none
        k_with "!c1" => first | assumption | exact And.right (by k_extra "!c2") | fail
        k_with "!c2" => first | assumption | exact And.right (by k_extra "!c3") | fail
        k_with "!c3" => first | assumption | exact And.right (by k_extra "!c4") | fail
        k_with "!c4" => first | assumption | exact And.right (by k_extra "!c5") | fail
        k_with "!c5" => first | assumption | exact And.right (by k_extra "!c6") | fail
        k_with "!c6" => first | assumption | exact And.right (by k_extra "!c7") | fail
        k_with "!c7" => first | assumption | exact And.right (by k_extra "!c8") | fail
        k_with "!c8" => assumption
        k_with "!lt9" => with_reducible first | exact And.left (by k_extra "!c1") | exact And.right (by k_extra "!c1") | fail
        k_with "!omega" => with_reducible first | exact lt_dp (by assumption) (by with_unfolding_all exact rfl) | exact lt_un (by assumption) (by with_unfolding_all exact rfl) | assumption | exact Ne.symm (by assumption) | exact Nat.ne_of_lt (by assumption) | exact Nat.ne_of_gt (by assumption) | exact le_big (by assumption) (by with_unfolding_all exact rfl) | exact le_big2 (by assumption) (by with_unfolding_all exact rfl) | exact lt_big (by assumption) (by with_unfolding_all exact rfl) | exact Nat.le_of_ble_eq_true (by with_unfolding_all exact rfl) | exact Nat.ne_of_gt (lt_s (by assumption)) | exact Nat.ne_of_gt (lt_s (lt_s (by assumption))) | exact Nat.ne_of_gt (lt_s (lt_s (lt_s (by assumption)))) | exact Nat.ne_of_lt (by k_extra "!lt9") | exact Nat.ne_of_gt (by k_extra "!lt9") | (refine Nat.lt_of_lt_of_le ?_ (Nat.le_refl _); k_extra "!lt9") | fail
        k_with "!call builtin:len" => (k_here; (with_reducible show wpAny _ _ (call (Value.builtin "len") [Value.ref _]) _ _ _); k_dflt (refine' L_len ?N ?m ?z ?_; (case N => k_asm); (case m => k_mem); (case z => omega); k_whole))
        k_with "!item" => first | (k_here; (with_reducible show wpAny _ _ (subscriptTail _ _ (Value.ref _) (Value.int _ _)) _ _ _); k_dflt (refine' kim_list ?N ?m ?c ?d ?z ?f ?x ?_; (case N => k_asm); (case m => k_mem); (case c => rfl); (case d => rfl); (case z => omega); (case f => omega); (case x => (try simp only [Int.toNat_natCast]); first | assumption | rfl | exact List.getElem?_eq_getElem (by omega)); k_whole)) | (k_here; (with_reducible show wpAny _ _ (subscriptTail _ _ (Value.ref _) (Value.int _ _)) _ _ _); k_dflt (refine' kda_item (knd := PySem.intKind _ _) ?N ?m ?d (intKind_is _ _ _ _) ?v ?_; (case N => k_asm); (case d => assumption); (case m => k_mem); (case v => assumption); k_whole))
        k_with "!subscriptTail" => k_extra "!item"
        k_with "!subscriptTail Name Constant ref int" => k_extra "!item"
        k_with "!subscriptTail Name Name ref int" => k_extra "!item"
        k_with "!k_all" => first | exact ne_of_allLt (by assumption) | exact ne_of_allLt (And.right (by assumption)) | exact ne_of_allLt (And.right (And.right (by assumption)))
        k_with "!sub" => first | exact fun _ h => h | (with_reducible assumption) | exact sub_app (by assumption) | exact sub_app (fun _ h => h) | exact (fun _ h => List.mem_append_right _ h) | (refine sub_cc ?_; k_extra "!sub") | (refine sub_tl ?_; k_extra "!sub")
        k_with "!k_handed" => with_reducible assumption
        k_with "!k_all" => first | exact ne_of_allNe (by assumption) | exact ne_of_allNe (And.right (by assumption)) | exact ne_of_allNe (And.right (And.right (by assumption)))
        k_with "!call ref" => k_extra "call ref"
        k_with "!k_all" => first | exact ne_of_lts2 (by assumption) | (with_reducible assumption)
        k_with "!k_mem" => assumption
        k_with "!callWith ref" => (k_here; k_dflt (first | (refine' callWith_K ?k1 ?k2 ?_; (case k1 => k_asm); (case k2 => k_is); k_whole) | (refine' callWith_K0 ?k1 ?k2 ?_; (case k1 => k_in); (case k2 => k_is); k_whole) | (refine' callWith_M0 ?k1 ?k2 ?_; (case k1 => k_meth); (case k2 => k_is); k_whole; try dsimp only [List.nil_append, List.cons_append]) | (refine' callWith_M ?k1 ?k2 ?k3 ?k4 ?_; (case k1 => k_asm); (case k2 => k_asm); (case k3 => k_mem); (case k4 => k_is); k_whole) | (refine' callWith_F ?k1 ?_; (case k1 => exact FnAt.of (by k_asm) (by k_mem)); k_whole)))
        k_with "!exec For Name Name cons nil" => k_extra "exec For"
        k_with "!pyIter ref" => k_extra "pyIter ref"
        k_with "!revslice" => (k_here; (with_reducible show wpAny _ _ (subscriptTail _ (PySem.Expr.Slice none none (some _) _) (Value.ref _) (Value.ref _)) _ _ _); k_dflt (refine' krv_ints ?F ?N ?l ?k ?i ?_ ?s ?t ?z; (case F => k_asm); (case N => k_asm); (case l => exact L_isList (by k_asm) (by k_mem)); (case k => exact IsPart.int _ _); (case i => assumption); (case s => with_unfolding_all rfl); (case t => (intro _; with_unfolding_all rfl)); (case z => (rw [List.size_toArray, sizeLine_eq]; omega))); intro zqD zqws zqh zqF zqN zql1 zqhI zqhC; (have zqhW := IntsAre.length zqhI); (replace zql1 := allLt_of zql1); (try simp only [AllLt, and_true] at zql1))
        k_with "!subscriptTail Name Slice ref ref" => k_extra "!revslice"
        k_with "!compareOp In int ref" => (k_here; k_dflt (refine' in_list_ints ?hl ?hi ?_; (case hl => exact L_isList (by k_asm) (by k_mem)); (case hi => assumption); k_whole))
        k_with "!exec Assign cons ListComp" => (k_here; (rename Fr _ _ _ _ => zqlF9); k_dflt (refine comp_assign zqlF9 (by rfl) (by with_unfolding_all rfl) (by with_unfolding_all rfl) (by decide) (by rfl) (by decide) (by rfl) (by rfl) (by rfl) ?_))
        k_with "!eval Name" => (k_here; kc_free; k_dflt (refine' nameX_F ?N ?c ?m ?d ?_ ?a ?b; (case a => rfl); (case b => rfl); (case N => k_asm); (case c => rfl); (case m => k_mem); (case d => k_asm); k_whole))
        k_with "!call builtin:len" => (k_here; (with_reducible show wpAny _ _ (call (Value.builtin "len") [Value.ref _]) _ _ _); k_dflt (refine' L_len ?N ?m ?z ?_; (case N => k_asm); (case m => k_mem); (case z => ((simp only [List.length_append, List.length_cons, List.length_nil]); omega)); k_whole))
        k_with "!binaryOp Add ref ref" => (k_here; (with_reducible show wpAny _ _ (binaryOp _ (Value.ref _) (Value.ref _)) _ _ _); k_dflt (refine' add_my ?F ?N ?a ?b ?z ?_; (case F => k_asm); (case N => k_asm); (case a => k_mem); (case b => k_mem); (case z => ((try simp only [List.length_append, List.length_cons, List.length_nil]); omega)); k_whole); intro zqD zqh zqF zqN zql1; (try simp only [AllLt, and_true] at zql1))
        k_with "!k_mem" => exact List.mem_append_left _ (by assumption)
        k_with "!U2" => ((case B => assumption); (case F => k_asm); (case X => assumption); (case T => assumption); (case hf => exact rfl); (case hk => exact rfl); (case N => k_asm); (case U => k_updF); (case hdp => ((try dsimp only); omega)); (case hun => ((try dsimp only); omega)); k_whole)
        k_with "!call ref" => (k_here; (rename True => zqmark9); (with_reducible show wpAny _ _ (call (Value.ref 327) _) _ _ _); k_dflt (refine' use_upd (take_spec ?h1 ?h2 ?h3 ?h4) ?B ?F ?X ?T ?hf ?hk ?N ?U ?hdp ?hun ?_; (case h1 => omega); (case h2 => omega); (case h3 => assumption); (case h4 => assumption); k_extra "!U2"); rintro zqv zqo zqh zqtk zqF zqN ⟨zqr, zqt, zqx, zqtx, zqy, zqty, zqn, zqev, zqr0, zqr1, zqy0, zqy1, zqeo⟩; subst zqev; subst zqeo; (try dsimp only))
        k_with "!call ref" => (k_here; (rename True => zqmark9); (with_reducible show wpAny _ _ (call (Value.ref 334) _) _ _ _); k_dflt (refine' use_one ?h1 ?h2 ?h3 ?h4 ?h5 ?h6 ?B ?F ?X ?T ?hf ?hk ?N ?U ?hdp ?hun ?_; (case B => assumption); (case F => k_asm); (case X => assumption); (case T => assumption); (case hf => exact rfl); (case hk => exact rfl); (case N => k_asm); (case h6 => k_mem); (case U => k_updF); (case h1 => (first | ((try simp only [List.length_append, List.length_cons, List.length_nil]); omega) | ((rename (IntsAre _ (List.drop _ _)) => zqhI9); (have zqhW9 := IntsAre.length zqhI9); (simp only [natInts, List.map_cons, List.drop_succ_cons, List.drop_zero, List.length_map] at zqhW9); omega))); (case h2 => (first | ((try simp only [List.length_append, List.length_cons, List.length_nil]); omega) | ((rename (IntsAre _ (List.drop _ _)) => zqhI9); (have zqhW9 := IntsAre.length zqhI9); (simp only [natInts, List.map_cons, List.drop_succ_cons, List.drop_zero, List.length_map] at zqhW9); omega))); (case h3 => assumption); (case h4 => assumption); (case h5 => k_ne); (case hdp => ((try dsimp only); omega)); (case hun => ((try dsimp only); omega)); k_whole); intro zqv zqx zqtx zqy zqty zqn zqh zqtk zqF zqN zqy0 zqy1 zqhv)
        k_with "!setItem ref int" => (k_here; (rename True => zqmark7); k_dflt (refine' kda_set (knd := PySem.intKind _ _) ?F ?N ?U ?d (intKind_is _ _ _ _) ?z ?_; (case F => k_asm); (case N => k_asm); (case U => k_updF); (case d => assumption); (case z => (rw [sizeLine_eq]; omega)); k_whole); intro zqh zqo zqF zqN zqhd; (try dsimp only at zqN))
        clear F1 N1
        intro i v m₁ nx h tk own hP hoff hDm hJ F₁ N₁
        obtain ⟨l, rfl, ok, e1, e2⟩ := hJ
        obtain ⟨ti, rfl⟩ := kv_key hP
        have hin : i < C.n := by obtain ⟨k, z, e, _⟩ := hP; have := (List.getElem?_eq_some_iff.mp e).1; omega
        obtain ⟨E, hE, ⟨tke, hke⟩, hpve⟩ := ok.ent i hin
        rw [if_neg (Nat.lt_irrefl i)] at hpve
        have hve : valueAt (kvsFrom 0 ρ.ents) (i : Int) = some (.ref E.e) := by rw [← ok.kv]; simpa using kvsFrom_value l 0 i hE
        have hEm : (E.e, listOf #[E.vk, .ref E.p] E.ee) ∈ τ1.led w ++ l.flatMap EntC.led := List.mem_append_right _ (List.mem_flatMap.mpr ⟨E, List.mem_of_getElem? hE, .head _⟩)
        have hEp : (E.p, listOf E.pv.toArray E.pe) ∈ τ1.led w ++ l.flatMap EntC.led := List.mem_append_right _ (List.mem_flatMap.mpr ⟨E, List.mem_of_getElem? hE, .tail _ (.head _)⟩)
        obtain ⟨FL, hF0, N2, hF1, hF2⟩ := cut_at N₁ (List.mem_append_left _ (.tail _ (.tail _ (.tail _ hEm))))
        have hcf := hF1 _ (List.mem_append_left _ (.head _)) fun e => ok.oc _ hEm e.symm
        have hDf := hF1 _ (List.mem_append_left _ hDm) fun e => ok.oD _ hEm e.symm
        have hpf := hF1 _ (List.mem_append_left _ (.tail _ (.tail _ (.tail _ hEp)))) (ent_ne ok.nd hE)
        have hpul := Shape.up_len hS (show i < C.shape.n from hin)
        have hpel : E.pv.length = (C.shape.up (some i)).length := by rw [hpve.length]; simp [natInts]
        have hpez : E.pv.length < 500 := by omega
        have hd0 : (0 : Int) ≤ (Eg.pv.length : Int) - 1 := by omega
        have F₂ := fr_pinsX (l := [(Str.ofString "gone", _), (Str.ofString "depth", _)]) F₁ (all2 e1 e2)
        clear F₁ e1 e2 hEg hpvg hvg hEg0 hEg1 hEg2 hDm
        have hsr := up_cut W.st H1 i hin
        k_steps
        · rename (IntsAre _ (List.drop _ _)) => hI9
          rename (List.any _ _ = true) => ha9
          rename (_ ∧ AllLt _ FL) => l9
          rename Fr _ _ _ _ => F3
          rename News _ _ _ _ => N3
          rw [any_natInts, List.contains_iff_mem, List.mem_reverse] at ha9
          rw [if_pos ha9] at hsr
          obtain ⟨nx', n1, n2, n3, n4, n5⟩ := loose_turn ok hE N3 F3 hF1 hoff l9.1 l9.2 (by
            rw [hsr]
            rw [show (((Eg.pv.length : Nat) : Int) - 1).toNat = (C.shape.up (some gn)).length - 1 from by omega] at hI9
            simpa [natInts] using hI9) rfl rfl
          exact ⟨_, _, _, _, nx', rfl, F3, N3, n1, n2, n3, n4, n5⟩
        · rename (List.any _ _ = false) => ha9
          rename Fr _ _ _ _ => F3
          rename News _ _ _ _ => N3
          rw [any_natInts] at ha9
          have hno : gn ∉ C.shape.up (some i) := fun h => by simp [h] at ha9
          rw [if_neg hno] at hsr
          obtain ⟨nx', n1, n2, n3, n4, n5⟩ := loose_keep ok hE rfl hF1 hoff N₁ hsr (m := fun y => if y = Str.ofString "node" then _ else (List.lookup y [(Str.ofString "gone", _), (Str.ofString "depth", _)]).or (m₁ y)) rfl rfl
          exact ⟨_, _, _, _, nx', rfl, F3, N3, n1, n2, n3, n4, n5⟩
      · intro m₁ nx h tk hJ F₁ N₁
        k_with_none
        k_with "!c1" => first | assumption | exact And.right (by k_extra "!c2") | fail
        k_with "!c2" => first | assumption | exact And.right (by k_extra "!c3") | fail
        k_with "!c3" => first | assumption | exact And.right (by k_extra "!c4") | fail
        k_with "!c4" => first | assumption | exact And.right (by k_extra "!c5") | fail
        k_with "!c5" => first | assumption | exact And.right (by k_extra "!c6") | fail
        k_with "!c6" => first | assumption | exact And.right (by k_extra "!c7") | fail
        k_with "!c7" => first | assumption | exact And.right (by k_extra "!c8") | fail
        k_with "!c8" => assumption
        k_with "!lt9" => with_reducible first | exact And.left (by k_extra "!c1") | exact And.right (by k_extra "!c1") | fail
        k_with "!omega" => with_reducible first | exact lt_dp (by assumption) (by with_unfolding_all exact rfl) | exact lt_un (by assumption) (by with_unfolding_all exact rfl) | assumption | exact Ne.symm (by assumption) | exact Nat.ne_of_lt (by assumption) | exact Nat.ne_of_gt (by assumption) | exact le_big (by assumption) (by with_unfolding_all exact rfl) | exact le_big2 (by assumption) (by with_unfolding_all exact rfl) | exact lt_big (by assumption) (by with_unfolding_all exact rfl) | exact Nat.le_of_ble_eq_true (by with_unfolding_all exact rfl) | exact Nat.ne_of_gt (lt_s (by assumption)) | exact Nat.ne_of_gt (lt_s (lt_s (by assumption))) | exact Nat.ne_of_gt (lt_s (lt_s (lt_s (by assumption)))) | exact Nat.ne_of_lt (by k_extra "!lt9") | exact Nat.ne_of_gt (by k_extra "!lt9") | (refine Nat.lt_of_lt_of_le ?_ (Nat.le_refl _); k_extra "!lt9") | fail
        k_with "!call builtin:len" => (k_here; (with_reducible show wpAny _ _ (call (Value.builtin "len") [Value.ref _]) _ _ _); k_dflt (refine' L_len ?N ?m ?z ?_; (case N => k_asm); (case m => k_mem); (case z => omega); k_whole))
        k_with "!item" => first | (k_here; (with_reducible show wpAny _ _ (subscriptTail _ _ (Value.ref _) (Value.int _ _)) _ _ _); k_dflt (refine' kim_list ?N ?m ?c ?d ?z ?f ?x ?_; (case N => k_asm); (case m => k_mem); (case c => rfl); (case d => rfl); (case z => omega); (case f => omega); (case x => (try simp only [Int.toNat_natCast]); first | assumption | rfl | exact List.getElem?_eq_getElem (by omega)); k_whole)) | (k_here; (with_reducible show wpAny _ _ (subscriptTail _ _ (Value.ref _) (Value.int _ _)) _ _ _); k_dflt (refine' kda_item (knd := PySem.intKind _ _) ?N ?m ?d (intKind_is _ _ _ _) ?v ?_; (case N => k_asm); (case d => assumption); (case m => k_mem); (case v => assumption); k_whole))
        k_with "!subscriptTail" => k_extra "!item"
        k_with "!subscriptTail Name Constant ref int" => k_extra "!item"
        k_with "!subscriptTail Name Name ref int" => k_extra "!item"
        k_with "!k_all" => first | exact ne_of_allLt (by assumption) | exact ne_of_allLt (And.right (by assumption)) | exact ne_of_allLt (And.right (And.right (by assumption)))
        k_with "!sub" => first | exact fun _ h => h | (with_reducible assumption) | exact sub_app (by assumption) | exact sub_app (fun _ h => h) | exact (fun _ h => List.mem_append_right _ h) | (refine sub_cc ?_; k_extra "!sub") | (refine sub_tl ?_; k_extra "!sub")
        k_with "!k_handed" => with_reducible assumption
        k_with "!k_all" => first | exact ne_of_allNe (by assumption) | exact ne_of_allNe (And.right (by assumption)) | exact ne_of_allNe (And.right (And.right (by assumption)))
        k_with "!call ref" => k_extra "call ref"
        k_with "!k_all" => first | exact ne_of_lts2 (by assumption) | (with_reducible assumption)
        k_with "!k_mem" => assumption
        k_with "!callWith ref" => (k_here; k_dflt (first | (refine' callWith_K ?k1 ?k2 ?_; (case k1 => k_asm); (case k2 => k_is); k_whole) | (refine' callWith_K0 ?k1 ?k2 ?_; (case k1 => k_in); (case k2 => k_is); k_whole) | (refine' callWith_M0 ?k1 ?k2 ?_; (case k1 => k_meth); (case k2 => k_is); k_whole; try dsimp only [List.nil_append, List.cons_append]) | (refine' callWith_M ?k1 ?k2 ?k3 ?k4 ?_; (case k1 => k_asm); (case k2 => k_asm); (case k3 => k_mem); (case k4 => k_is); k_whole) | (refine' callWith_F ?k1 ?_; (case k1 => exact FnAt.of (by k_asm) (by k_mem)); k_whole)))
        k_with "!exec For Name Name cons nil" => k_extra "exec For"
        k_with "!pyIter ref" => k_extra "pyIter ref"
        k_with "!revslice" => (k_here; (with_reducible show wpAny _ _ (subscriptTail _ (PySem.Expr.Slice none none (some _) _) (Value.ref _) (Value.ref _)) _ _ _); k_dflt (refine' krv_ints ?F ?N ?l ?k ?i ?_ ?s ?t ?z; (case F => k_asm); (case N => k_asm); (case l => exact L_isList (by k_asm) (by k_mem)); (case k => exact IsPart.int _ _); (case i => assumption); (case s => with_unfolding_all rfl); (case t => (intro _; with_unfolding_all rfl)); (case z => (rw [List.size_toArray, sizeLine_eq]; omega))); intro zqD zqws zqh zqF zqN zql1 zqhI zqhC; (have zqhW := IntsAre.length zqhI); (replace zql1 := allLt_of zql1); (try simp only [AllLt, and_true] at zql1))
        k_with "!subscriptTail Name Slice ref ref" => k_extra "!revslice"
        k_with "!compareOp In int ref" => (k_here; k_dflt (refine' in_list_ints ?hl ?hi ?_; (case hl => exact L_isList (by k_asm) (by k_mem)); (case hi => assumption); k_whole))
        k_with "!exec Assign cons ListComp" => (k_here; (rename Fr _ _ _ _ => zqlF9); k_dflt (refine comp_assign zqlF9 (by rfl) (by with_unfolding_all rfl) (by with_unfolding_all rfl) (by decide) (by rfl) (by decide) (by rfl) (by rfl) (by rfl) ?_))
        k_with "!eval Name" => (k_here; kc_free; k_dflt (refine' nameX_F ?N ?c ?m ?d ?_ ?a ?b; (case a => rfl); (case b => rfl); (case N => k_asm); (case c => rfl); (case m => k_mem); (case d => k_asm); k_whole))
        k_with "!call builtin:len" => (k_here; (with_reducible show wpAny _ _ (call (Value.builtin "len") [Value.ref _]) _ _ _); k_dflt (refine' L_len ?N ?m ?z ?_; (case N => k_asm); (case m => k_mem); (case z => ((simp only [List.length_append, List.length_cons, List.length_nil]); omega)); k_whole))
        k_with "!binaryOp Add ref ref" => (k_here; (with_reducible show wpAny _ _ (binaryOp _ (Value.ref _) (Value.ref _)) _ _ _); k_dflt (refine' add_my ?F ?N ?a ?b ?z ?_; (case F => k_asm); (case N => k_asm); (case a => k_mem); (case b => k_mem); (case z => ((try simp only [List.length_append, List.length_cons, List.length_nil]); omega)); k_whole); intro zqD zqh zqF zqN zql1; (try simp only [AllLt, and_true] at zql1))
        k_with "!k_mem" => exact List.mem_append_left _ (by assumption)
        k_with "!U2" => ((case B => assumption); (case F => k_asm); (case X => assumption); (case T => assumption); (case hf => exact rfl); (case hk => exact rfl); (case N => k_asm); (case U => k_updF); (case hdp => ((try dsimp only); omega)); (case hun => ((try dsimp only); omega)); k_whole)
        k_with "!call ref" => (k_here; (rename True => zqmark9); (with_reducible show wpAny _ _ (call (Value.ref 327) _) _ _ _); k_dflt (refine' use_upd (take_spec ?h1 ?h2 ?h3 ?h4) ?B ?F ?X ?T ?hf ?hk ?N ?U ?hdp ?hun ?_; (case h1 => omega); (case h2 => omega); (case h3 => assumption); (case h4 => assumption); k_extra "!U2"); rintro zqv zqo zqh zqtk zqF zqN ⟨zqr, zqt, zqx, zqtx, zqy, zqty, zqn, zqev, zqr0, zqr1, zqy0, zqy1, zqeo⟩; subst zqev; subst zqeo; (try dsimp only))
        k_with "!call ref" => (k_here; (rename True => zqmark9); (with_reducible show wpAny _ _ (call (Value.ref 334) _) _ _ _); k_dflt (refine' use_one ?h1 ?h2 ?h3 ?h4 ?h5 ?h6 ?B ?F ?X ?T ?hf ?hk ?N ?U ?hdp ?hun ?_; (case B => assumption); (case F => k_asm); (case X => assumption); (case T => assumption); (case hf => exact rfl); (case hk => exact rfl); (case N => k_asm); (case h6 => k_mem); (case U => k_updF); (case h1 => (first | ((try simp only [List.length_append, List.length_cons, List.length_nil]); omega) | ((rename (IntsAre _ (List.drop _ _)) => zqhI9); (have zqhW9 := IntsAre.length zqhI9); (simp only [natInts, List.map_cons, List.drop_succ_cons, List.drop_zero, List.length_map] at zqhW9); omega))); (case h2 => (first | ((try simp only [List.length_append, List.length_cons, List.length_nil]); omega) | ((rename (IntsAre _ (List.drop _ _)) => zqhI9); (have zqhW9 := IntsAre.length zqhI9); (simp only [natInts, List.map_cons, List.drop_succ_cons, List.drop_zero, List.length_map] at zqhW9); omega))); (case h3 => assumption); (case h4 => assumption); (case h5 => k_ne); (case hdp => ((try dsimp only); omega)); (case hun => ((try dsimp only); omega)); k_whole); intro zqv zqx zqtx zqy zqty zqn zqh zqtk zqF zqN zqy0 zqy1 zqhv)
        k_with "!setItem ref int" => (k_here; (rename True => zqmark7); k_dflt (refine' kda_set (knd := PySem.intKind _ _) ?F ?N ?U ?d (intKind_is _ _ _ _) ?z ?_; (case F => k_asm); (case N => k_asm); (case U => k_updF); (case d => assumption); (case z => (rw [sizeLine_eq]; omega)); k_whole); intro zqh zqo zqF zqN zqhd; (try dsimp only at zqN))
        obtain ⟨l, rfl, ok, e1, e2⟩ := hJ
        k_steps
        exact ⟨_, _, _, rfl, F₁, ⟨C.cut gn, τ1, ⟨ρ.D, ρ.od, l⟩, _, _, _, _, _⟩, ⟨ok.fin (by omega) rfl rfl (by assumption) (by assumption) H1 hn10 hdict W.rows.lo sD, hxT, rfl⟩, fun q hq => ⟨(N₁ q (.tail _ hq)).1, in_or_new kp N₁ (.tail _ hq)⟩⟩
end
end
section
example : True := by
  w_top off
  k_with_none
  k_with "!c1" => first | assumption | exact And.right (by k_extra "!c2") | fail
  k_with "!c2" => first | assumption | exact And.right (by k_extra "!c3") | fail
  k_with "!c3" => first | assumption | exact And.right (by k_extra "!c4") | fail
  k_with "!c4" => first | assumption | exact And.right (by k_extra "!c5") | fail
  k_with "!c5" => first | assumption | exact And.right (by k_extra "!c6") | fail
  k_with "!c6" => first | assumption | exact And.right (by k_extra "!c7") | fail
  k_with "!c7" => first | assumption | exact And.right (by k_extra "!c8") | fail
  k_with "!c8" => assumption
  k_with "!lt9" => with_reducible first | exact And.left (by k_extra "!c1") | exact And.right (by k_extra "!c1") | fail
  k_with "!omega" => with_reducible first | exact lt_dp (by assumption) (by with_unfolding_all exact rfl) | exact lt_un (by assumption) (by with_unfolding_all exact rfl) | assumption | exact Ne.symm (by assumption) | exact Nat.ne_of_lt (by assumption) | exact Nat.ne_of_gt (by assumption) | exact le_big (by assumption) (by with_unfolding_all exact rfl) | exact le_big2 (by assumption) (by with_unfolding_all exact rfl) | exact lt_big (by assumption) (by with_unfolding_all exact rfl) | exact Nat.le_of_ble_eq_true (by with_unfolding_all exact rfl) | exact Nat.ne_of_gt (lt_s (by assumption)) | exact Nat.ne_of_gt (lt_s (lt_s (by assumption))) | exact Nat.ne_of_gt (lt_s (lt_s (lt_s (by assumption)))) | exact Nat.ne_of_lt (by k_extra "!lt9") | exact Nat.ne_of_gt (by k_extra "!lt9") | (refine Nat.lt_of_lt_of_le ?_ (Nat.le_refl _); k_extra "!lt9") | fail
  k_with "!k_all" => first | exact ne_of_allLt (by assumption) | exact ne_of_allLt (And.right (by assumption)) | exact ne_of_allLt (And.right (And.right (by assumption)))
  k_with "!sub" => first | exact fun _ h => h | (with_reducible assumption) | exact sub_app (by assumption) | exact sub_app (fun _ h => h) | exact (fun _ h => List.mem_append_right _ h) | (refine sub_cc ?_; k_extra "!sub") | (refine sub_tl ?_; k_extra "!sub")
  k_with "!k_handed" => with_reducible assumption
  k_with "!k_all" => first | exact ne_of_allNe (by assumption) | exact ne_of_allNe (And.right (by assumption)) | exact ne_of_allNe (And.right (And.right (by assumption)))
  k_with "!k_all" => first | exact ne_of_lts2 (by assumption) | (with_reducible assumption)
  k_with "!k_mem" => assumption
  k_with "!eval Name" => (k_here; kc_free; k_dflt (refine' nameX_F ?N ?c ?m ?d ?_ ?a ?b; (case a => rfl); (case b => rfl); (case N => k_asm); (case c => rfl); (case m => k_mem); (case d => k_asm); k_whole))
  trivial
theorem lamT {w : World} {qual : Str} {pa p1 p2 p3 : Pos} {f ca c' : Addr} {pm ctv : Value} {oc o : Obj} {ws : Array Value} {tq tt : Tok} {FP : List (Addr × Obj)} {M : Nat}
    (ho : (f, kla_obj (Str.ofString "<lambda>") qual { posonlyargs := [], args := [{ arg := Str.ofString "one", annotation := none, pos := pa }], vararg := none, kwonlyargs := [], kw_defaults := [], kwarg := none, defaults := [] }
      (.Compare (.Name (Str.ofString "one") p1) [.NotEq] [.Name (Str.ofString "top") p2] p3) { kind := .function, names := [(Str.ofString "one", .local), (Str.ofString "top", .free)], isGenerator := false, isCoroutine := false }
      [(Str.ofString "top", ca)] pm c' ctv) ∈ FP) (hc : (c', oc) ∈ FP) (hcd : oc.data = .fields ws) (hcv : ws[1]? = some (.str qual tq)) (hca : (ca, o) ∈ FP) (hod : o.data = .cell (some (.int 0 tt))) : Cb w f 3 FP M (fun c => decide (c ≠ 0)) := by
  refine ⟨⟨_, _, _, _, ho⟩, fun j t h hj => ?_⟩
  refine enterLam (binds := [(Str.ofString "one", .int j t)]) ho hc hcd hcv rfl (locs rfl) rfl rfl rfl (by decide) ?_
  intro dp un gd env outer A₀ base g L' h₁ p' loose mean mg mb gs ds tk os B X T F N lt hdp hun kp
  k_steps
  refine ⟨_, _, _, rfl, by assumption, ?_, led_of N (by walk_at "sub")⟩
  show Value.bool (((j : Nat) : Int) != 0) = Value.bool (decide (j ≠ 0))
  congr 1
  by_cases e : j = 0
  · subst e; rfl
  · have e2 : ((j : Nat) : Int) ≠ 0 := by omega
    simp [e, e2]
theorem lamF {w : World} {qual : Str} {pa p1 : Pos} {f c' : Addr} {pm ctv : Value} {oc : Obj} {ws : Array Value} {tq : Tok} {FP : List (Addr × Obj)} {M : Nat}
    (ho : (f, kla_obj (Str.ofString "<lambda>") qual { posonlyargs := [], args := [{ arg := Str.ofString "one", annotation := none, pos := pa }], vararg := none, kwonlyargs := [], kw_defaults := [], kwarg := none, defaults := [] }
      (.Constant (.bool false) 0 p1) { kind := .function, names := [(Str.ofString "one", .local)], isGenerator := false, isCoroutine := false }
      [] pm c' ctv) ∈ FP) (hc : (c', oc) ∈ FP) (hcd : oc.data = .fields ws) (hcv : ws[1]? = some (.str qual tq)) : Cb w f 3 FP M (fun _ => false) := by
  refine ⟨⟨_, _, _, _, ho⟩, fun j t h hj => ?_⟩
  refine enterLam (binds := [(Str.ofString "one", .int j t)]) ho hc hcd hcv rfl (locs rfl) rfl rfl rfl (by decide) ?_
  intro dp un gd env outer A₀ base g L' h₁ p' loose mean mg mb gs ds tk os B X T F N lt hdp hun kp
  k_steps
  exact ⟨_, _, _, rfl, by assumption, rfl, led_of N (by walk_at "sub")⟩
theorem flip3 {h₀ h : Heap} {L : Addr} {a b c : Addr × Obj} {l : List (Addr × Obj)} (N : News h₀ L h (a :: b :: c :: l)) : News h₀ L h (l ++ [a, b, c]) := nsub N fun q hq => by
  simp only [List.mem_append, List.mem_cons, List.not_mem_nil, or_false] at hq ⊢
  rcases hq with h | h | h | h
  · exact .inr (.inr (.inr h))
  · exact .inl h
  · exact .inr (.inl h)
  · exact .inr (.inr (.inl h))
theorem unflip3 {h₀ h : Heap} {L : Addr} {a b c : Addr × Obj} {l : List (Addr × Obj)} (N : News h₀ L h (l ++ [a, b, c])) : News h₀ L h (a :: b :: c :: l) := nsub N fun q hq => by
  simp only [List.mem_append, List.mem_cons, List.not_mem_nil, or_false] at hq ⊢
  rcases hq with h | h | h | h
  · exact .inr (.inl h)
  · exact .inr (.inr (.inl h))
  · exact .inr (.inr (.inr h))
  · exact .inl h
theorem apart3 {l : List (Addr × Obj)} {a b c : Addr} {o1 o2 o3 : Obj} (ap : ∀ q ∈ [(a, o1), (b, o2), (c, o3)], q.1 ∉ l.map (·.1)) : (∀ q ∈ l, q.1 ≠ a) ∧ (∀ q ∈ l, q.1 ≠ b) ∧ (∀ q ∈ l, q.1 ≠ c) ∧ ∀ (p1 p2 p3 : Obj), ∀ q ∈ [(a, p1), (b, p2), (c, p3)], q.1 ∉ l.map (·.1) := by
  refine ⟨fun q hq e => ap _ (.head _) (List.mem_map.mpr ⟨q, hq, e⟩), fun q hq e => ap _ (.tail _ (.head _)) (List.mem_map.mpr ⟨q, hq, e⟩), fun q hq e => ap _ (.tail _ (.tail _ (.head _))) (List.mem_map.mpr ⟨q, hq, e⟩), fun p1 p2 p3 q hq => ?_⟩
  simp only [List.mem_cons, List.not_mem_nil, or_false] at hq
  rcases hq with rfl | rfl | rfl
  · exact ap (a, o1) (.head _)
  · exact ap (b, o2) (.tail _ (.head _))
  · exact ap (c, o3) (.tail _ (.tail _ (.head _)))
abbrev Core.six : Core := (((((Core.none.add (Str.ofString "root") Option.none).add (Str.ofString "element") (some 0)).add (Str.ofString "text") (some 1)).add (Str.ofString "element") (some 1)).add (Str.ofString "element") (some 3)).add (Str.ofString "attribute") (some 4)
theorem gt_nil {n : Nat} : ∀ q ∈ ([] : List (Addr × Obj)), @LT.lt Nat instLTNat n q.1 := fun _ h => nomatch h
theorem gt_cons {n a : Nat} {o : Obj} {l : List (Addr × Obj)} (h : @LT.lt Nat instLTNat n a) (hl : ∀ q ∈ l, @LT.lt Nat instLTNat n q.1) : ∀ q ∈ ((a, o) : Addr × Obj) :: l, @LT.lt Nat instLTNat n q.1 := fun q hq => by
  rcases List.mem_cons.mp hq with rfl | hq
  · exact h
  · exact hl q hq
theorem pickN {g h : Heap} {L : Addr} {l : List (Addr × Obj)} (k : Nat) (js : List Nat) (N : News g L h l) : News g L h ((js.filterMap fun i => l[i]?) ++ l.drop k) := nsub N fun q hq => by
  rcases List.mem_append.mp hq with hq | hq
  · obtain ⟨i, _, e⟩ := List.mem_filterMap.mp hq
    exact List.mem_of_getElem? e
  · exact List.mem_of_mem_drop hq
theorem mem_at {l : List (Addr × Obj)} {q : Addr × Obj} (k : Nat) (h : l[k]? = some q) : q ∈ l := List.mem_of_getElem? h
theorem rows_apart2 {n : Nat} {l l' : List (Addr × Obj)} (h : ∀ q ∈ l, @LT.lt Nat instLTNat n q.1) (h' : ∀ q ∈ l', q.1 ≠ n) : ∀ q ∈ l ++ l', q.1 ≠ n := fun q hq => (List.mem_append.mp hq).elim (fun m => Nat.ne_of_gt (h q m)) (h' q)
theorem told_rows {w : World} {g h : Heap} {L ce D e0 e1 e2 e3 e4 e5 p0 p1 p2 p3 p4 p5 : Addr} {oc o7 o5 od : Obj} {t1 t2 t3 t4 t5 t6 k0 k1 k2 k3 k4 k5 : Tok} {c0 c1 c2 c3 c4 c5 b0 b1 b2 b3 b4 b5 : Nat} {τ : TreeC} {kn pn : Nat → Str} {T : Nat}
    (N : News g L h ((e5, listOf #[.str (Str.ofString "attribute") k5, .ref p5] c5) :: (p5, listOf #[.int 0 t1, .int 1 t2, .int 3 t4, .int 4 t5, .int 5 t6] b5) :: (e4, listOf #[.str (Str.ofString "element") k4, .ref p4] c4) :: (p4, listOf #[.int 0 t1, .int 1 t2, .int 3 t4, .int 4 t5] b4) ::
      (e3, listOf #[.str (Str.ofString "element") k3, .ref p3] c3) :: (p3, listOf #[.int 0 t1, .int 1 t2, .int 3 t4] b3) :: (e2, listOf #[.str (Str.ofString "text") k2, .ref p2] c2) :: (p2, listOf #[.int 0 t1, .int 1 t2, .int 2 t3] b2) ::
      (e1, listOf #[.str (Str.ofString "element") k1, .ref p1] c1) :: (p1, listOf #[.int 0 t1, .int 1 t2] b1) :: (e0, listOf #[.str (Str.ofString "root") k0, .ref p0] c0) :: (p0, listOf #[.int 0 t1] b0) :: (D, od) :: (ce, oc) :: (370, o7) :: (365, o5) :: τ.led w))
    (hd : od.IsDictOf (PySem.intKind Prg w) (intKeyPairs [(.int 0 t1, .ref e0), (.int 1 t2, .ref e1), (.int 2 t3, .ref e2), (.int 3 t4, .ref e3), (.int 4 t5, .ref e4), (.int 5 t6, .ref e5)])) (lo : (D == sysModules) = false) (_H : Store w Core.six kn pn T τ)
    (q0 : @LT.lt Nat instLTNat ce D) (q1 : @LT.lt Nat instLTNat D p0) (q2 : @LT.lt Nat instLTNat p0 e0) (q3 : @LT.lt Nat instLTNat e0 p1) (q4 : @LT.lt Nat instLTNat p1 e1) (q5 : @LT.lt Nat instLTNat e1 p2) (q6 : @LT.lt Nat instLTNat p2 e2)
    (q7 : @LT.lt Nat instLTNat e2 p3) (q8 : @LT.lt Nat instLTNat p3 e3) (q9 : @LT.lt Nat instLTNat e3 p4) (qa : @LT.lt Nat instLTNat p4 e4) (qb : @LT.lt Nat instLTNat e4 p5) (qc : @LT.lt Nat instLTNat p5 e5) (r7 : @LT.lt Nat instLTNat 370 ce)
    (ac : ∀ q ∈ τ.led w, q.1 ≠ ce) (a7 : ∀ q ∈ τ.led w, q.1 ≠ 370) (a5 : ∀ q ∈ τ.led w, q.1 ≠ 365) :
    ∃ (ρ : RowsC) (R : List (Addr × Obj)), ρ.D = D ∧ RowsOf w Core.six.shape ρ ∧ News g L h ((365, o5) :: (ce, oc) :: (370, o7) :: R) ∧ (∀ q ∈ ρ.led, q ∈ R) ∧ (∀ q ∈ τ.led w, q ∈ R) ∧ (∀ q ∈ R, q.1 ≠ ce) ∧ (∀ q ∈ R, q.1 ≠ 370) ∧ (∀ q ∈ R, q.1 ≠ 365) := by
  let ρ : RowsC := ⟨D, od, [⟨e0, p0, .str (Str.ofString "root") k0, c0, b0, [.int 0 t1]⟩, ⟨e1, p1, .str (Str.ofString "element") k1, c1, b1, [.int 0 t1, .int 1 t2]⟩, ⟨e2, p2, .str (Str.ofString "text") k2, c2, b2, [.int 0 t1, .int 1 t2, .int 2 t3]⟩,
    ⟨e3, p3, .str (Str.ofString "element") k3, c3, b3, [.int 0 t1, .int 1 t2, .int 3 t4]⟩, ⟨e4, p4, .str (Str.ofString "element") k4, c4, b4, [.int 0 t1, .int 1 t2, .int 3 t4, .int 4 t5]⟩, ⟨e5, p5, .str (Str.ofString "attribute") k5, c5, b5, [.int 0 t1, .int 1 t2, .int 3 t4, .int 4 t5, .int 5 t6]⟩]⟩
  have u1 := Nat.lt_trans q0 q1
  have u2 := Nat.lt_trans u1 q2
  have u3 := Nat.lt_trans u2 q3
  have u4 := Nat.lt_trans u3 q4
  have u5 := Nat.lt_trans u4 q5
  have u6 := Nat.lt_trans u5 q6
  have u7 := Nat.lt_trans u6 q7
  have u8 := Nat.lt_trans u7 q8
  have u9 := Nat.lt_trans u8 q9
  have ua := Nat.lt_trans u9 qa
  have ub := Nat.lt_trans ua qb
  have hl : ∀ q ∈ ρ.led, @LT.lt Nat instLTNat ce q.1 := gt_cons q0 (gt_cons u2 (gt_cons u1 (gt_cons u4 (gt_cons u3 (gt_cons u6 (gt_cons u5 (gt_cons u8 (gt_cons u7 (gt_cons ua (gt_cons u9 (gt_cons (Nat.lt_trans ub qc) (gt_cons ub gt_nil))))))))))))
  refine ⟨ρ, ρ.led ++ τ.led w, rfl, ⟨rfl, hd, lo, ?_⟩, pickN 16 [15, 13, 14, 12, 10, 11, 8, 9, 6, 7, 4, 5, 2, 3, 0, 1] N, fun q hq => List.mem_append_left _ hq, fun q hq => List.mem_append_right _ hq, rows_apart2 hl ac, rows_apart2 (fun q hq => Nat.lt_trans r7 (hl q hq)) a7, rows_apart2 (fun q hq => Nat.lt_trans (Nat.lt_trans (Nat.le_of_ble_eq_true rfl) r7) (hl q hq)) a5⟩
  intro i hi
  have hi' : i < 6 := hi
  match i, hi' with
  | 0, _ => exact ⟨_, rfl, ⟨k0, rfl⟩, .cons _ _ .nil⟩
  | 1, _ => exact ⟨_, rfl, ⟨k1, rfl⟩, .cons _ _ (.cons _ _ .nil)⟩
  | 2, _ => exact ⟨_, rfl, ⟨k2, rfl⟩, .cons _ _ (.cons _ _ (.cons _ _ .nil))⟩
  | 3, _ => exact ⟨_, rfl, ⟨k3, rfl⟩, .cons _ _ (.cons _ _ (.cons _ _ .nil))⟩
  | 4, _ => exact ⟨_, rfl, ⟨k4, rfl⟩, .cons _ _ (.cons _ _ (.cons _ _ (.cons _ _ .nil)))⟩
  | 5, _ => exact ⟨_, rfl, ⟨k5, rfl⟩, .cons _ _ (.cons _ _ (.cons _ _ (.cons _ _ (.cons _ _ .nil))))⟩
/-- the first call of _law_node_right: it fills its table of codes -/
theorem use_first {w : World} {f : Value} {vs : List Value} {n : Nat} {FP : List (Addr × Obj)} {dp un : Nat} {gd : Option (List Code)} {env : Env} {outer : List Env} {A₀ : Around} {base h₀ : Heap} {L : Addr} {m : Str → Option Value}
    {p : Program} {loose : List Str} {mean : ExcName → Option Value} {mg mb : Str → Option Value} {s : Shared} {Q E : Value → Shared → Prop}
    (S : Spec w f vs n ((365, tabObj #[]) :: FP) (fun v h' => v = .bool true ∧ (∀ q ∈ FP, h'.get? q.1 = some q.2) ∧ ∃ U : TabC, U.Ok ∧ ∀ q ∈ U.led, h'.get? q.1 = some q.2 ∧ (q.1 = 365 ∨ s.heap.get? q.1 = none)) s.heap) (B : Below A₀ base outer h₀) (F : Fr h₀ L s.heap m) (X : (hd.heap_1 w.params).In h₀) (T : Top p loose mean mg mb h₀) (hf : env.frame = some L) (hk : env.scope.kind = .function)
    (N : News h₀ L s.heap ((365, tabObj #[]) :: FP)) (h5 : ∀ p ∈ FP, p.1 ≠ 365) (hdp : dp + n < 900) (hun : un + 16 * n < 9000)
    (k : ∀ (U : TabC) h' tk', U.Ok → Fr h₀ L h' m → News h₀ L h' (U.led ++ FP) → (∀ p ∈ FP, ∀ q ∈ U.led, p.1 ≠ q.1) → Q (.bool true) { s with heap := h', toks := tk' }) :
    wpAny (model Prg w) (AA dp un gd env outer) (call f vs) Q E s := by
  refine use_mut [] (led := fun U : TabC => U.led ++ FP) (R := fun v U => v = .bool true ∧ U.Ok ∧ ∀ q ∈ U.led, q.1 = 365 ∨ s.heap.get? q.1 = none) (S.mono fun v h' ⟨h1, h2, U, hU, h3⟩ => ⟨U, ⟨h1, hU, fun q hq => (h3 q hq).2⟩, fun q hq => ?_⟩) B F X T hf hk N (fun q hq => hq) (fun q hq => nomatch hq) hdp hun fun v U h' tk' F' N' fr hx => ?_
  · rcases List.mem_append.mp hq with hq | hq
    · obtain ⟨a, b⟩ := h3 q hq
      exact ⟨a, b.elim (fun e => .inl (by rw [e]; exact .head _)) .inr⟩
    · exact ⟨h2 q hq, .inl (List.mem_map_of_mem (List.mem_cons_of_mem _ hq))⟩
  · obtain ⟨rfl, hU, hn⟩ := hx
    rw [List.append_nil] at N'
    exact k U h' tk' hU F' N' fun p hp q hq => (hn q hq).elim (fun e => by rw [e]; exact h5 p hp) fun e => fr _ e p (List.mem_cons_of_mem _ hp)
section
variable {prog : Program} {w : World} {A : Around} {E : Value → Shared → Prop} {s : Shared} {env : Env} {h₀ : Heap} {target : Expr} {body : List Stmt} {Q : Flow → Shared → Prop}
/-- a loop over a list of the ledger, into a target of any form -/
theorem list_turns {d : Addr} {vs : List Value} {nn : Nat} {m₀ : Str → Option Value} {news : List (Addr × Obj)} (J : Nat → (Str → Option Value) → List (Addr × Obj) → Prop)
    (hh : A.handled = none) (hm : (d, listOf vs.toArray nn) ∈ news) (F : Fr h₀ env.locals s.heap m₀) (N : News h₀ env.locals s.heap news) (hj : J 0 m₀ news)
    (turn : ∀ i v m₁ nx h tk own, vs[i]? = some v → TbOff own nx → (d, listOf vs.toArray nn) ∈ nx → J i m₁ nx → Fr h₀ env.locals h m₁ → News h₀ env.locals h (nx ++ own) →
      wpAny (model prog w) A (assign target env v) (fun _ s₃ => wpAny (model prog w) A (execs body env) (TbPost h₀ env.locals (fun m' nx' => (d, listOf vs.toArray nn) ∈ nx' ∧ J (i + 1) m' nx') own { s with heap := h, toks := tk } Q) E s₃) E { s with heap := h, toks := tk })
    (done : ∀ m₁ nx h tk, J vs.length m₁ nx → Fr h₀ env.locals h m₁ → News h₀ env.locals h nx → Q .next { s with heap := h, toks := tk }) :
    wpAny (model prog w) A (pyIter (.ref d)) (fun it s₂ => TurnsAt prog w A h₀ env target body Q E it s₂) E s := by
  have hl : s.heap.IsList d vs.toArray := ⟨_, (N _ hm).1, rfl, nn, rfl⟩
  have hne : d ≠ s.heap.objs.size := Nat.ne_of_lt (Heap.lt_size (N _ hm).1)
  refine wpAny_pyIter_list hl ?_
  refine ⟨s.heap.objs.size, _, _, _, _, _, _, m₀, news, fun i m nx => (d, listOf vs.toArray nn) ∈ nx ∧ J i m nx, rfl, KTurns.ofWalks (Walks.list hh s.heap.objs.size d hne vs.toArray) fun i v s Q E st q => letGo_listiter st.1 q, ?_, ?_, ?_,
    ⟨⟨_, Heap.get?_push_size _ rfl, rfl, rfl⟩, hl.at fun o e => Heap.get?_push_of_some _ e⟩, F.push _, (fun p hp => ⟨Heap.get?_push_of_some _ (N p hp).1, (N p hp).2⟩), ⟨hm, hj⟩, ?_, ?_⟩
  · intro hl
    rcases List.mem_cons.mp hl with e | hl
    · exact absurd F.ns.lt (e ▸ Nat.lt_irrefl _)
    · exact (N _ hm).2.1 (List.mem_singleton.mp hl).symm
  · intro b hb
    rw [List.mem_singleton.mp hb]
    exact next_is_new F
  · intro p hp hI
    exact absurd (Heap.lt_size (N p hp).1) ((List.mem_singleton.mp hI) ▸ Nat.lt_irrefl _)
  · rintro i v m₁ news₁ hh' tk' own hin hP ⟨hdm, hJ⟩ hoff hown hheld hmem hst F₁ N₁
    obtain ⟨⟨oi, hoi, _⟩, _⟩ := hst
    have hP' : vs[i]? = some v := by
      have hp : vs.toArray[i]? = some v := hP
      simpa using hp
    have hI : (s.heap.objs.size, oi) ∈ own := hmem _ (.head _) (next_is_new F) oi hoi
    have hI2 : (s.heap.objs.size, oi) ∈ own.filter (fun p => decide (p.1 ≠ d)) := List.mem_filter.mpr ⟨hI, by simpa using fun e => hne e.symm⟩
    have hsep : TbOff (own.filter (fun p => decide (p.1 ≠ d))) news₁ := by
      intro p hp q hq e
      obtain ⟨h1, h2⟩ := List.mem_filter.mp hp
      rcases List.mem_cons.mp (hown p h1) with h3 | h3
      · exact hoff q hq (List.mem_singleton.mpr (by rw [← e, h3]))
      · simp [List.mem_singleton.mp h3] at h2
    have N₂ : News h₀ env.locals hh' (news₁ ++ own.filter (fun p => decide (p.1 ≠ d))) := fun p hp => N₁ p ((List.mem_append.mp hp).elim (fun h => List.mem_append.mpr (.inr h)) fun h => List.mem_append.mpr (.inl (List.mem_filter.mp h).1))
    have hdo : ∀ p ∈ own, p.1 = d → p = (d, listOf vs.toArray nn) := fun p hp e => by
      have h1 := hheld p hp
      have h2 := (N₁ (d, listOf vs.toArray nn) (List.mem_append_right _ hdm)).1
      rw [e] at h1
      exact Prod.ext e (Option.some.inj (h1.symm.trans h2))
    refine wpAny_mono (turn i v m₁ news₁ hh' tk' _ hP' hsep hdm hJ F₁ N₂) (fun _ s₃ y => wpAny_mono y (fun f s₂ p => ?_) fun _ _ e => e) fun _ _ e => e
    have fin : TbEnd h₀ env.locals (fun m' nx' => (d, listOf vs.toArray nn) ∈ nx' ∧ J (i + 1) m' nx') (own.filter (fun p => decide (p.1 ≠ d))) { s with heap := hh', toks := tk' } s₂ → LoopStepU h₀ env.locals [s.heap.objs.size] own (fun m nx => (d, listOf vs.toArray nn) ∈ nx ∧ J (i + 1) m nx) { s with heap := hh', toks := tk' } .next s₂ := by
      rintro ⟨h', tk, m', news', nx, e, F', N', hn, ho, ha, hm⟩
      refine ⟨rfl, h', tk, m', nx, e, F', fun p hp => N' p ((List.mem_append.mp hp).elim (fun h => ?_) (hn p)), fun p hp hq => ha _ hI2 p hp (List.mem_singleton.mp hq).symm, hm⟩
      by_cases e2 : p.1 = d
      · rw [hdo p h e2]; exact hn _ hm.1
      · exact ho p (List.mem_filter.mpr ⟨h, by simpa using e2⟩)
    cases f with
    | ret v => exact .ret p
    | brk => exact .brk p
    | next => exact .next (fin p)
    | cont => exact .cont (fin p)
  · rintro h' tk m' news' F' N' _ ⟨_, hJ⟩
    refine done m' news' h' tk ?_ F' N'
    simpa using hJ
end
abbrev tup3 (a b c : Value) : Obj := { cls := .type "tuple", data := .seq #[a, b, c] }
def TurnOk (BASE : List (Addr × Obj)) (v : Value) : Prop :=
  ∃ D a b nd tn ss bs ns nb sm bg, v = .ref D ∧ (D, tup3 (.int ((nd : Nat) : Int) tn) (.ref a) (.ref b)) ∈ BASE ∧ (a, listOf (List.toArray ss) ns) ∈ BASE ∧ IntsAre ss (natInts sm) ∧ ss.length < 500 ∧ (b, listOf (List.toArray bs) nb) ∈ BASE ∧ IntsAre bs (natInts bg) ∧ bs.length < 500 ∧ nd < 6
theorem told_base {g h : Heap} {L ce ls D0 D1 D2 D3 a0 a1 a2 a3 b0 b1 b2 b3 : Addr} {oc o7 o5 : Obj} {t1 t2 t3 t4 t5 t6 : Tok} {c i0 i1 i2 i3 j0 j1 j2 j3 : Nat} {R : List (Addr × Obj)}
    (N : News g L h ((ls, listOf #[.ref D0, .ref D1, .ref D2, .ref D3] c) :: (D3, tup3 (.int 4 t5) (.ref a3) (.ref b3)) :: (b3, listOf #[.int 0 t1] j3) :: (a3, listOf #[.int 2 t3] i3) :: (D2, tup3 (.int 3 t4) (.ref a2) (.ref b2)) :: (b2, listOf #[] j2) :: (a2, listOf #[.int 1 t2] i2) ::
      (D1, tup3 (.int 5 t6) (.ref a1) (.ref b1)) :: (b1, listOf #[.int 1 t2] j1) :: (a1, listOf #[.int 2 t3, .int 3 t4, .int 4 t5, .int 5 t6] i1) :: (D0, tup3 (.int 4 t5) (.ref a0) (.ref b0)) :: (b0, listOf #[.int 4 t5] j0) :: (a0, listOf #[.int 4 t5] i0) ::
      (365, o5) :: (ce, oc) :: (370, o7) :: R)) (rce : @LT.lt Nat instLTNat 370 ce) (r7 : ∀ q ∈ R, q.1 ≠ 370) (r5 : ∀ q ∈ R, q.1 ≠ 365)
    (qa : @LT.lt Nat instLTNat 370 a0) (qb : @LT.lt Nat instLTNat a0 b0) (qc : @LT.lt Nat instLTNat b0 D0) (qd : @LT.lt Nat instLTNat D0 a1) (qe : @LT.lt Nat instLTNat a1 b1) (qf : @LT.lt Nat instLTNat b1 D1) (qg : @LT.lt Nat instLTNat D1 a2) (qh : @LT.lt Nat instLTNat a2 b2)
    (qi : @LT.lt Nat instLTNat b2 D2) (qj : @LT.lt Nat instLTNat D2 a3) (qk : @LT.lt Nat instLTNat a3 b3) (ql : @LT.lt Nat instLTNat b3 D3) (qm : @LT.lt Nat instLTNat D3 ls) :
    ∃ BASE : List (Addr × Obj), News g L h ((365, o5) :: (370, o7) :: BASE) ∧ (ls, listOf #[.ref D0, .ref D1, .ref D2, .ref D3] c) ∈ BASE ∧ (ce, oc) ∈ BASE ∧ (∀ q ∈ R, q ∈ BASE) ∧ (∀ v ∈ [Value.ref D0, .ref D1, .ref D2, .ref D3], TurnOk BASE v) ∧ (∀ q ∈ BASE, q.1 ≠ 370) ∧ (∀ q ∈ BASE, q.1 ≠ 365) := by
  let X : List (Addr × Obj) := [(ls, listOf #[.ref D0, .ref D1, .ref D2, .ref D3] c), (D3, tup3 (.int 4 t5) (.ref a3) (.ref b3)), (b3, listOf #[.int 0 t1] j3), (a3, listOf #[.int 2 t3] i3), (D2, tup3 (.int 3 t4) (.ref a2) (.ref b2)), (b2, listOf #[] j2), (a2, listOf #[.int 1 t2] i2),
      (D1, tup3 (.int 5 t6) (.ref a1) (.ref b1)), (b1, listOf #[.int 1 t2] j1), (a1, listOf #[.int 2 t3, .int 3 t4, .int 4 t5, .int 5 t6] i1), (D0, tup3 (.int 4 t5) (.ref a0) (.ref b0)), (b0, listOf #[.int 4 t5] j0), (a0, listOf #[.int 4 t5] i0), (ce, oc)]
  have u1 := Nat.lt_trans qa qb
  have u2 := Nat.lt_trans u1 qc
  have u3 := Nat.lt_trans u2 qd
  have u4 := Nat.lt_trans u3 qe
  have u5 := Nat.lt_trans u4 qf
  have u6 := Nat.lt_trans u5 qg
  have u7 := Nat.lt_trans u6 qh
  have u8 := Nat.lt_trans u7 qi
  have u9 := Nat.lt_trans u8 qj
  have ua := Nat.lt_trans u9 qk
  have ub := Nat.lt_trans ua ql
  have hall : ∀ q ∈ X, @LT.lt Nat instLTNat 370 q.1 := gt_cons (Nat.lt_trans ub qm) (gt_cons ub (gt_cons ua (gt_cons u9 (gt_cons u8 (gt_cons u7 (gt_cons u6 (gt_cons u5 (gt_cons u4 (gt_cons u3 (gt_cons u2 (gt_cons u1 (gt_cons qa (gt_cons rce gt_nil)))))))))))))
  refine ⟨X ++ R, pickN 16 [13, 15, 0, 1, 2, 3, 4, 5, 6, 7, 8, 9, 10, 11, 12, 14] N, mem_at 0 rfl, mem_at 13 rfl, fun q hq => List.mem_append_right _ hq, fun v hv => ?_, rows_apart2 hall r7, rows_apart2 (fun q hq => Nat.lt_trans (Nat.le_of_ble_eq_true rfl) (hall q hq)) r5⟩
  rcases List.mem_cons.mp hv with rfl | hv
  · exact ⟨D0, a0, b0, 4, t5, [.int 4 t5], [.int 4 t5], i0, j0, [4], [4], rfl, mem_at 10 rfl, mem_at 12 rfl, .cons _ _ .nil, Nat.le_of_ble_eq_true rfl, mem_at 11 rfl, .cons _ _ .nil, Nat.le_of_ble_eq_true rfl, Nat.le_of_ble_eq_true rfl⟩
  rcases List.mem_cons.mp hv with rfl | hv
  · exact ⟨D1, a1, b1, 5, t6, [.int 2 t3, .int 3 t4, .int 4 t5, .int 5 t6], [.int 1 t2], i1, j1, [2, 3, 4, 5], [1], rfl, mem_at 7 rfl, mem_at 9 rfl, .cons _ _ (.cons _ _ (.cons _ _ (.cons _ _ .nil))), Nat.le_of_ble_eq_true rfl, mem_at 8 rfl, .cons _ _ .nil, Nat.le_of_ble_eq_true rfl, Nat.le_of_ble_eq_true rfl⟩
  rcases List.mem_cons.mp hv with rfl | hv
  · exact ⟨D2, a2, b2, 3, t4, [.int 1 t2], [], i2, j2, [1], [], rfl, mem_at 4 rfl, mem_at 6 rfl, .cons _ _ .nil, Nat.le_of_ble_eq_true rfl, mem_at 5 rfl, .nil, Nat.le_of_ble_eq_true rfl, Nat.le_of_ble_eq_true rfl⟩
  rcases List.mem_singleton.mp hv with rfl
  exact ⟨D3, a3, b3, 4, t5, [.int 2 t3], [.int 0 t1], i3, j3, [2], [0], rfl, mem_at 1 rfl, mem_at 3 rfl, .cons _ _ .nil, Nat.le_of_ble_eq_true rfl, mem_at 2 rfl, .cons _ _ .nil, Nat.le_of_ble_eq_true rfl, Nat.le_of_ble_eq_true rfl⟩
/-- the told loop ahead of its turn i -/
def ToldJ (BASE : List (Addr × Obj)) (tr D : Addr) (iv : Value) (i : Nat) (m : Str → Option Value) (nx : List (Addr × Obj)) : Prop :=
  ∃ T5 : List (Addr × Obj), nx = T5 ++ (370, tabObj #[]) :: BASE ∧ ((i = 0 ∧ T5 = [(365, tabObj #[])]) ∨ ∃ U : TabC, U.Ok ∧ T5 = U.led) ∧ (∀ q ∈ T5, q.1 ≠ 370) ∧ m (Str.ofString "tree") = some (.ref tr) ∧ m (Str.ofString "rows") = some (.ref D) ∧ m (Str.ofString "inner") = some iv
section
variable {prog : Program} {w : World} {A : Around} {E : Value → Shared → Prop} {s : Shared} {env : Env} {h₀ : Heap} {target : Expr} {body : List Stmt} {Q : Flow → Shared → Prop}
theorem told_loop {BASE : List (Addr × Obj)} {ls tr D : Addr} {iv : Value} {vs : List Value} {nn : Nat} {m₀ : Str → Option Value} (hh : A.handled = none) (F : Fr h₀ env.locals s.heap m₀) (N : News h₀ env.locals s.heap ((365, tabObj #[]) :: (370, tabObj #[]) :: BASE)) (hm : (ls, listOf vs.toArray nn) ∈ BASE)
    (m1 : m₀ (Str.ofString "tree") = some (.ref tr)) (m2 : m₀ (Str.ofString "rows") = some (.ref D)) (m3 : m₀ (Str.ofString "inner") = some iv)
    (turn : Hold (∀ i v m₁ nx h tk own, vs[i]? = some v → TbOff own nx → (ls, listOf vs.toArray nn) ∈ nx → ToldJ BASE tr D iv i m₁ nx → Fr h₀ env.locals h m₁ → News h₀ env.locals h (nx ++ own) →
      wpAny (model prog w) A (assign target env v) (fun _ s₃ => wpAny (model prog w) A (execs body env) (TbPost h₀ env.locals (fun m' nx' => (ls, listOf vs.toArray nn) ∈ nx' ∧ ToldJ BASE tr D iv (i + 1) m' nx') own { s with heap := h, toks := tk } Q) E s₃) E { s with heap := h, toks := tk }))
    (done : Hold (∀ m₁ nx h tk, ToldJ BASE tr D iv vs.length m₁ nx → Fr h₀ env.locals h m₁ → News h₀ env.locals h nx → Q .next { s with heap := h, toks := tk })) :
    wpAny (model prog w) A (pyIter (.ref ls)) (fun it s₂ => TurnsAt prog w A h₀ env target body Q E it s₂) E s :=
  list_turns (ToldJ BASE tr D iv) hh (.tail _ (.tail _ hm)) F N ⟨[(365, tabObj #[])], rfl, .inl ⟨rfl, rfl⟩, fun q hq => by rw [List.mem_singleton.mp hq]; decide, m1, m2, m3⟩ turn.out done.out
end
theorem told_lams {w : World} {g h : Heap} {L f1 f2 c1 c2 ce : Addr} {q1 q2 : Str} {pa1 pa2 p1 p2 p3 p4 : Pos} {pm1 pm2 ct1 ct2 : Value} {oc1 oc2 oc o7 : Obj} {ws1 ws2 : Array Value} {t1 t2 tt : Tok} {R2 : List (Addr × Obj)}
    (_N : News g L h ((f2, kla_obj (Str.ofString "<lambda>") q2 { posonlyargs := [], args := [{ arg := Str.ofString "one", annotation := none, pos := pa2 }], vararg := none, kwonlyargs := [], kw_defaults := [], kwarg := none, defaults := [] }
      (.Constant (.bool false) 0 p4) { kind := .function, names := [(Str.ofString "one", .local)], isGenerator := false, isCoroutine := false } [] pm2 c2 ct2) :: (c2, oc2) ::
      (f1, kla_obj (Str.ofString "<lambda>") q1 { posonlyargs := [], args := [{ arg := Str.ofString "one", annotation := none, pos := pa1 }], vararg := none, kwonlyargs := [], kw_defaults := [], kwarg := none, defaults := [] }
      (.Compare (.Name (Str.ofString "one") p1) [.NotEq] [.Name (Str.ofString "top") p2] p3) { kind := .function, names := [(Str.ofString "one", .local), (Str.ofString "top", .free)], isGenerator := false, isCoroutine := false }
      [(Str.ofString "top", ce)] pm1 c1 ct1) :: (c1, oc1) :: (370, o7) :: R2))
    (d1 : oc1.data = .fields ws1) (v1 : ws1[1]? = some (.str q1 t1)) (d2 : oc2.data = .fields ws2) (v2 : ws2[1]? = some (.str q2 t2)) (hce : (ce, oc) ∈ R2) (hod : oc.data = .cell (some (.int 0 tt))) :
    ∃ NEWS : List (Addr × Obj), News g L h NEWS ∧ (∀ q ∈ R2, q ∈ NEWS) ∧ (370, o7) ∈ NEWS ∧ Cb w f1 3 NEWS 6 (fun c => decide (c ≠ 0)) ∧ Cb w f2 3 NEWS 6 (fun _ => false) :=
  ⟨_, _N, fun q hq => .tail _ (.tail _ (.tail _ (.tail _ (.tail _ hq)))), .tail _ (.tail _ (.tail _ (.tail _ (.head _)))), lamT (.tail _ (.tail _ (.head _))) (.tail _ (.tail _ (.tail _ (.head _)))) d1 v1 (.tail _ (.tail _ (.tail _ (.tail _ (.tail _ hce))))) hod,
    lamF (.head _) (.tail _ (.head _)) d2 v2⟩
end
section
example : True := by
  w_top off
  k_with_none
  k_with "!c1" => first | assumption | exact And.right (by k_extra "!c2") | fail
  k_with "!c2" => first | assumption | exact And.right (by k_extra "!c3") | fail
  k_with "!c3" => first | assumption | exact And.right (by k_extra "!c4") | fail
  k_with "!c4" => first | assumption | exact And.right (by k_extra "!c5") | fail
  k_with "!c5" => first | assumption | exact And.right (by k_extra "!c6") | fail
  k_with "!c6" => first | assumption | exact And.right (by k_extra "!c7") | fail
  k_with "!c7" => first | assumption | exact And.right (by k_extra "!c8") | fail
  k_with "!c8" => assumption
  k_with "!lt9" => with_reducible first | exact And.left (by k_extra "!c1") | exact And.right (by k_extra "!c1") | fail
  k_with "!omega" => with_reducible first | exact lt_dp (by assumption) (by with_unfolding_all exact rfl) | exact lt_un (by assumption) (by with_unfolding_all exact rfl) | assumption | exact Ne.symm (by assumption) | exact Nat.ne_of_lt (by assumption) | exact Nat.ne_of_gt (by assumption) | exact le_big (by assumption) (by with_unfolding_all exact rfl) | exact le_big2 (by assumption) (by with_unfolding_all exact rfl) | exact lt_big (by assumption) (by with_unfolding_all exact rfl) | exact Nat.le_of_ble_eq_true (by with_unfolding_all exact rfl) | exact Nat.ne_of_gt (lt_s (by assumption)) | exact Nat.ne_of_gt (lt_s (lt_s (by assumption))) | exact Nat.ne_of_gt (lt_s (lt_s (lt_s (by assumption)))) | exact Nat.ne_of_lt (by k_extra "!lt9") | exact Nat.ne_of_gt (by k_extra "!lt9") | (refine Nat.lt_of_lt_of_le ?_ (Nat.le_refl _); k_extra "!lt9") | fail
  k_with "!k_all" => first | exact ne_of_allLt (by assumption) | exact ne_of_allLt (And.right (by assumption)) | exact ne_of_allLt (And.right (And.right (by assumption)))
  k_with "!k_handed" => with_reducible assumption
  k_with "!k_all" => first | exact ne_of_allNe (by assumption) | exact ne_of_allNe (And.right (by assumption)) | exact ne_of_allNe (And.right (And.right (by assumption)))
  k_with "!call ref" => k_extra "call ref"
  k_with "!k_all" => first | exact ne_of_lts2 (by assumption) | (with_reducible assumption)
  k_with "!k_mem" => assumption
  k_with "!callWith ref" => (k_here; k_dflt (first | (refine' callWith_K ?k1 ?k2 ?_; (case k1 => k_asm); (case k2 => k_is); k_whole) | (refine' callWith_K0 ?k1 ?k2 ?_; (case k1 => k_in); (case k2 => k_is); k_whole) | (refine' callWith_M0 ?k1 ?k2 ?_; (case k1 => k_meth); (case k2 => k_is); k_whole; try dsimp only [List.nil_append, List.cons_append]) | (refine' callWith_M ?k1 ?k2 ?k3 ?k4 ?_; (case k1 => k_asm); (case k2 => k_asm); (case k3 => k_mem); (case k4 => k_is); k_whole) | (refine' callWith_F ?k1 ?_; (case k1 => exact FnAt.of (by k_asm) (by k_mem)); k_whole)))
  k_with "!pyIter ref" => k_extra "pyIter ref"
  k_with "!eval Name" => (k_here; kc_free; k_dflt (refine' nameX_F ?N ?c ?m ?d ?_ ?a ?b; (case a => rfl); (case b => rfl); (case N => k_asm); (case c => rfl); (case m => k_mem); (case d => k_asm); k_whole))
  k_with "!exec Return some" => k_extra "exec Return some"
  k_with "!eval Dict" => (k_here; k_dflt (refine' kdn_eval (knd := PySem.intKind _ _) ?F ?N ?b ?a ?l ?e ?n ?_; (case F => k_asm); (case N => k_asm); (case b => exact Top.nolimit (by k_asm)); (case a => rfl); (case l => rfl); (case e => exact List.cons_ne_nil _ _); (case n => exact Nat.le_of_ble_eq_true rfl)); intro zqd zqh zqo zqF zqN zql1 zqlo zqhd; (try k_lt zql1))
  trivial
section
example : True := by
  k_with "!k_room" => ((try simp only [depth_under_make, depth_under_kw, depth_in1, depth_deeper, depth_caller]); (show _ < (1000 : Nat)); (try dsimp only); omega)
  k_with "!k_mem" => exact List.mem_append_left _ (by assumption)
  k_with "!exec For Tuple List cons nil" => k_extra "exec For"
  trivial
set_option maxHeartbeats 8000000 in
theorem told_spec {w : World} {h : Heap} : Spec w (.ref 375) [] 24 [(370, tabObj #[]), (365, tabObj #[])]
    (fun v h' => v = .bool true ∧ ∃ (xs : Array Value) (U : TabC), U.Ok ∧ ∀ q ∈ (370, tabObj xs) :: U.led, h'.get? q.1 = some q.2 ∧ (q.1 ∈ ([(370, tabObj #[]), (365, tabObj #[])] : List (Addr × Obj)).map (·.1) ∨ h.get? q.1 = none)) h := by
  refine enterC (binds := []) (by k_is) (by k_is) (fun s => BindsTo.of_eq rfl) (by rfl) (by decide +kernel) rfl rfl rfl ?_
  intro dp un gd env outer A₀ base g L' h₁ p' loose mean mg mb gs ds tk os cells B X T F N Y lt hdp hun kp
  k_fold
  k_with_none
  k_with "!c1" => first | assumption | exact And.right (by k_extra "!c2") | fail
  k_with "!c2" => first | assumption | exact And.right (by k_extra "!c3") | fail
  k_with "!c3" => first | assumption | exact And.right (by k_extra "!c4") | fail
  k_with "!c4" => first | assumption | exact And.right (by k_extra "!c5") | fail
  k_with "!c5" => first | assumption | exact And.right (by k_extra "!c6") | fail
  k_with "!c6" => first | assumption | exact And.right (by k_extra "!c7") | fail
  k_with "!c7" => first | assumption | exact And.right (by k_extra "!c8") | fail
  k_with "!c8" => assumption
  k_with "!lt9" => with_reducible first | exact And.left (by k_extra "!c1") | exact And.right (by k_extra "!c1") | fail
  k_with "!omega" => with_reducible first | exact lt_dp (by assumption) (by with_unfolding_all exact rfl) | exact lt_un (by assumption) (by with_unfolding_all exact rfl) | assumption | exact Ne.symm (by assumption) | exact Nat.ne_of_lt (by assumption) | exact Nat.ne_of_gt (by assumption) | exact le_big (by assumption) (by with_unfolding_all exact rfl) | exact le_big2 (by assumption) (by with_unfolding_all exact rfl) | exact lt_big (by assumption) (by with_unfolding_all exact rfl) | exact Nat.le_of_ble_eq_true (by with_unfolding_all exact rfl) | exact Nat.ne_of_gt (lt_s (by assumption)) | exact Nat.ne_of_gt (lt_s (lt_s (by assumption))) | exact Nat.ne_of_gt (lt_s (lt_s (lt_s (by assumption)))) | exact Nat.ne_of_lt (by k_extra "!lt9") | exact Nat.ne_of_gt (by k_extra "!lt9") | (refine Nat.lt_of_lt_of_le ?_ (Nat.le_refl _); k_extra "!lt9") | fail
  k_with "!k_all" => first | exact ne_of_allLt (by assumption) | exact ne_of_allLt (And.right (by assumption)) | exact ne_of_allLt (And.right (And.right (by assumption)))
  k_with "!k_handed" => with_reducible assumption
  k_with "!k_all" => first | exact ne_of_allNe (by assumption) | exact ne_of_allNe (And.right (by assumption)) | exact ne_of_allNe (And.right (And.right (by assumption)))
  k_with "!call ref" => k_extra "call ref"
  k_with "!k_all" => first | exact ne_of_lts2 (by assumption) | (with_reducible assumption)
  k_with "!k_mem" => assumption
  k_with "!callWith ref" => (k_here; k_dflt (first | (refine' callWith_K ?k1 ?k2 ?_; (case k1 => k_asm); (case k2 => k_is); k_whole) | (refine' callWith_K0 ?k1 ?k2 ?_; (case k1 => k_in); (case k2 => k_is); k_whole) | (refine' callWith_M0 ?k1 ?k2 ?_; (case k1 => k_meth); (case k2 => k_is); k_whole; try dsimp only [List.nil_append, List.cons_append]) | (refine' callWith_M ?k1 ?k2 ?k3 ?k4 ?_; (case k1 => k_asm); (case k2 => k_asm); (case k3 => k_mem); (case k4 => k_is); k_whole) | (refine' callWith_F ?k1 ?_; (case k1 => exact FnAt.of (by k_asm) (by k_mem)); k_whole)))
  k_with "!pyIter ref" => k_extra "pyIter ref"
  k_with "!eval Name" => (k_here; kc_free; k_dflt (refine' nameX_F ?N ?c ?m ?d ?_ ?a ?b; (case a => rfl); (case b => rfl); (case N => k_asm); (case c => rfl); (case m => k_mem); (case d => k_asm); k_whole))
  k_with "!exec Return some" => k_extra "exec Return some"
  k_with "!eval Dict" => (k_here; k_dflt (refine' kdn_eval (knd := PySem.intKind _ _) ?F ?N ?b ?a ?l ?e ?n ?_; (case F => k_asm); (case N => k_asm); (case b => exact Top.nolimit (by k_asm)); (case a => rfl); (case l => rfl); (case e => exact List.cons_ne_nil _ _); (case n => exact Nat.le_of_ble_eq_true rfl)); intro zqd zqh zqo zqF zqN zql1 zqlo zqhd; (try k_lt zql1))
  k_with "!k_room" => ((try simp only [depth_under_make, depth_under_kw, depth_in1, depth_deeper, depth_caller]); (show _ < (1000 : Nat)); (try dsimp only); omega)
  k_with "!k_mem" => exact List.mem_append_left _ (by assumption)
  k_with "!exec For Tuple List cons nil" => k_extra "exec For"
  k_cells Y
  simp only [List.cons_append, List.nil_append] at N
  have h370 : @LT.lt Nat instLTNat 370 L' := lt _ (.head _)
  have h365 : @LT.lt Nat instLTNat 365 L' := lt _ (.tail _ (.head _))
  k_with "call ref" =>
    (fail_if_success (with_reducible show wpAny _ _ (call (Value.ref 309) _) _ _ _))
    refine Hold.out ?_
  k_steps
  refine ⟨?_⟩
  dsimp only [List.cons_append, List.nil_append]
  rename Fr _ _ _ _ => F1
  rename News _ _ _ _ => N1
  obtain ⟨τ0, eT, er, nd0, N2, ap0⟩ := tree0 (w := w) N1 (by k_ne) (by k_ne) (by k_ne) (by k_all) (by k_all) (by k_all)
  subst eT
  have H0 : Store w Core.none kName pName 0 τ0 := Store.none er nd0
  refine use_tree (newroot_spec (τ := τ0) (by rw [er]; decide) nd0) B F1 X T rfl rfl N2 ap0 (by omega) (by omega) ?_
  intro v1 τ1 h1 tk1 F2 N3 ap1 hA1
  replace N3 := unflip3 N3
  obtain ⟨ac1, at1, aU1, aP1⟩ := apart3 ap1
  obtain ⟨⟨t1, ev1⟩, H1⟩ := H0.added hA1 (by decide) (fun j e => nomatch e) (.inr ⟨rfl, rfl⟩) noP_empty noK_empty
  have ev1' : v1 = .int 0 t1 := ev1
  clear ev1
  subst ev1'
  clear N1 N2 F1 ap0
  have hT1 : (τ0.aT, instObj 309 τ1.dT) ∈ τ1.led w := by rw [← hA1.aT]; exact .head _
  have hT2 : (τ1.dT, treeDict w τ1.aR τ1.t τ1.e₁) ∈ τ1.led w := .tail _ (.head _)
  k_steps
  refine ⟨?_⟩
  rename Fr _ _ _ _ => F1
  rename News _ _ _ _ => N1
  have hx1 : τ0.aT = τ1.aT := by rw [← hA1.aT]
  rw [hx1]
  refine use_tree (addelement_spec (τ := τ1) (o := (some 0)) ⟨_, rfl⟩ (H1.can fun j e => by cases e; exact ⟨by decide, .inl rfl⟩) (by rw [H1.len]; decide) H1.nd) B F1 X T rfl rfl (flip3 N1) (aP1 _ _ _) (by omega) (by omega) ?_
  intro v2 τ2 h2 tk2 F2 N3 ap2 hA2
  replace N3 := unflip3 N3
  obtain ⟨ac2, at2, aU2, aP2⟩ := apart3 ap2
  obtain ⟨⟨t2, ev2⟩, H2⟩ := H1.added hA2 (by decide) (fun j e => by cases e; exact ⟨by decide, .inl rfl⟩) (.inl (by decide)) noP_r noK_r
  have ev2' : v2 = .int 1 t2 := ev2
  clear ev2
  subst ev2'
  clear hT1 hT2 N1 F1
  have hT1 : (τ0.aT, instObj 309 τ2.dT) ∈ τ2.led w := by rw [← hA1.aT, ← hA2.aT]; exact .head _
  have hT2 : (τ2.dT, treeDict w τ2.aR τ2.t τ2.e₁) ∈ τ2.led w := .tail _ (.head _)
  k_steps
  refine ⟨?_⟩
  rename Fr _ _ _ _ => F1
  rename News _ _ _ _ => N1
  have hx2 : τ0.aT = τ2.aT := by rw [← hA1.aT, ← hA2.aT]
  rw [hx2]
  refine use_tree (addtext_spec (τ := τ2) (o := (some 1)) ⟨_, rfl⟩ (H2.can fun j e => by cases e; exact ⟨by decide, .inr rfl⟩) (by rw [H2.len]; decide) H2.nd) B F1 X T rfl rfl (flip3 N1) (aP2 _ _ _) (by omega) (by omega) ?_
  intro v3 τ3 h3 tk3 F2 N3 ap3 hA3
  replace N3 := unflip3 N3
  obtain ⟨ac3, at3, aU3, aP3⟩ := apart3 ap3
  obtain ⟨⟨t3, ev3⟩, H3⟩ := H2.added hA3 (by decide) (fun j e => by cases e; exact ⟨by decide, .inr rfl⟩) (.inl (by decide)) noP_empty noK_empty
  have ev3' : v3 = .int 2 t3 := ev3
  clear ev3
  subst ev3'
  clear hT1 hT2 N1 F1
  have hT1 : (τ0.aT, instObj 309 τ3.dT) ∈ τ3.led w := by rw [← hA1.aT, ← hA2.aT, ← hA3.aT]; exact .head _
  have hT2 : (τ3.dT, treeDict w τ3.aR τ3.t τ3.e₁) ∈ τ3.led w := .tail _ (.head _)
  k_steps
  refine ⟨?_⟩
  rename Fr _ _ _ _ => F1
  rename News _ _ _ _ => N1
  have hx3 : τ0.aT = τ3.aT := by rw [← hA1.aT, ← hA2.aT, ← hA3.aT]
  rw [hx3]
  refine use_tree (addelement_spec (τ := τ3) (o := (some 1)) ⟨_, rfl⟩ (H3.can fun j e => by cases e; exact ⟨by decide, .inr rfl⟩) (by rw [H3.len]; decide) H3.nd) B F1 X T rfl rfl (flip3 N1) (aP3 _ _ _) (by omega) (by omega) ?_
  intro v4 τ4 h4 tk4 F2 N3 ap4 hA4
  replace N3 := unflip3 N3
  obtain ⟨ac4, at4, aU4, aP4⟩ := apart3 ap4
  obtain ⟨⟨t4, ev4⟩, H4⟩ := H3.added hA4 (by decide) (fun j e => by cases e; exact ⟨by decide, .inr rfl⟩) (.inl (by decide)) noP_e noK_e
  have ev4' : v4 = .int 3 t4 := ev4
  clear ev4
  subst ev4'
  clear hT1 hT2 N1 F1
  have hT1 : (τ0.aT, instObj 309 τ4.dT) ∈ τ4.led w := by rw [← hA1.aT, ← hA2.aT, ← hA3.aT, ← hA4.aT]; exact .head _
  have hT2 : (τ4.dT, treeDict w τ4.aR τ4.t τ4.e₁) ∈ τ4.led w := .tail _ (.head _)
  k_steps
  refine ⟨?_⟩
  rename Fr _ _ _ _ => F1
  rename News _ _ _ _ => N1
  have hx4 : τ0.aT = τ4.aT := by rw [← hA1.aT, ← hA2.aT, ← hA3.aT, ← hA4.aT]
  rw [hx4]
  refine use_tree (addelement_spec (τ := τ4) (o := (some 3)) ⟨_, rfl⟩ (H4.can fun j e => by cases e; exact ⟨by decide, .inr rfl⟩) (by rw [H4.len]; decide) H4.nd) B F1 X T rfl rfl (flip3 (nsub N1 fun _ h => .tail _ h)) (aP4 _ _ _) (by omega) (by omega) ?_
  intro v5 τ5 h5 tk5 F2 N3 ap5 hA5
  replace N3 := unflip3 N3
  obtain ⟨ac5, at5, aU5, aP5⟩ := apart3 ap5
  obtain ⟨⟨t5, ev5⟩, H5⟩ := H4.added hA5 (by decide) (fun j e => by cases e; exact ⟨by decide, .inr rfl⟩) (.inl (by decide)) noP_e noK_e
  have ev5' : v5 = .int 4 t5 := ev5
  clear ev5
  subst ev5'
  clear hT1 hT2 N1 F1
  have hT1 : (τ0.aT, instObj 309 τ5.dT) ∈ τ5.led w := by rw [← hA1.aT, ← hA2.aT, ← hA3.aT, ← hA4.aT, ← hA5.aT]; exact .head _
  have hT2 : (τ5.dT, treeDict w τ5.aR τ5.t τ5.e₁) ∈ τ5.led w := .tail _ (.head _)
  k_steps
  refine ⟨?_⟩
  rename Fr _ _ _ _ => F1
  rename News _ _ _ _ => N1
  have hx5 : τ0.aT = τ5.aT := by rw [← hA1.aT, ← hA2.aT, ← hA3.aT, ← hA4.aT, ← hA5.aT]
  rw [hx5]
  obtain ⟨P, hP, rP⟩ := H5.row 4 (by decide)
  obtain ⟨tkp, hkp⟩ := rP.k
  have hPa : P.as = [] := by
    have := rP.as
    rw [show Core.sub _ isAt 4 = [] from by decide] at this
    exact List.eq_nil_of_length_eq_zero this.length
  refine use_tree (setattr_spec (τ := τ5) (j := 4) hP hkp (by rw [H5.len]; decide) (by rw [hPa]; decide) (fun v hv => by rw [hPa] at hv; cases hv) H5.nd) B F1 X T rfl rfl (flip3 N1) (aP5 _ _ _) (by omega) (by omega) ?_
  intro v6 τ6 h6 tk6 F2 N3 ap6 hA6
  replace N3 := unflip3 N3
  obtain ⟨ac6, at6, aU6, aP6⟩ := apart3 ap6
  obtain ⟨⟨t6, ev6⟩, H6⟩ := H5.addedA hA6 (by decide) (by decide) rfl (by decide) noP_k noK_k
  have ev6' : v6 = .int 5 t6 := ev6
  clear ev6
  subst ev6'
  clear hT1 hT2 N1 F1
  k_with "exec For" => refine Hold.out ?_
  k_steps
  refine ⟨?_⟩
  rename Fr _ _ _ _ => F1
  rename News _ _ _ _ => N1
  rename (Obj.IsDictOf _ _ (intKeyPairs _)) => hd9
  rename (_ == sysModules) = false => lo9
  obtain ⟨ρ, R, eD, hρ, N2, hsR, hsT, rc, r7, r5⟩ := told_rows N1 hd9 lo9 H6 (by omega) (by omega) (by omega) (by omega) (by omega) (by omega) (by omega) (by omega) (by omega) (by omega) (by omega) (by omega) (by omega) (by omega) ac6 at6 aU6
  clear N1 hd9 lo9
  repeat (rename (_ < _ ∧ _) => zz; clear zz)
  subst eD
  have hx6 : τ0.aT = τ6.aT := by rw [hx5, hA6.aT]
  rw [hx6] at F1
  clear ap1 ap2 ap3 ap4 ap5 ap6 ac1 ac2 ac3 ac4 ac5 ac6 at1 at2 at3 at4 at5 at6 aU1 aU2 aU3 aU4 aU5 aU6 aP1 aP2 aP3 aP4 aP5 aP6 hP rP hkp hPa
  k_with_none
  k_with "!c1" => first | assumption | exact And.right (by k_extra "!c2") | fail
  k_with "!c2" => first | assumption | exact And.right (by k_extra "!c3") | fail
  k_with "!c3" => first | assumption | exact And.right (by k_extra "!c4") | fail
  k_with "!c4" => first | assumption | exact And.right (by k_extra "!c5") | fail
  k_with "!c5" => first | assumption | exact And.right (by k_extra "!c6") | fail
  k_with "!c6" => first | assumption | exact And.right (by k_extra "!c7") | fail
  k_with "!c7" => first | assumption | exact And.right (by k_extra "!c8") | fail
  k_with "!c8" => assumption
  k_with "!lt9" => with_reducible first | exact And.left (by k_extra "!c1") | exact And.right (by k_extra "!c1") | fail
  k_with "!omega" => with_reducible first | exact lt_dp (by assumption) (by with_unfolding_all exact rfl) | exact lt_un (by assumption) (by with_unfolding_all exact rfl) | assumption | exact Ne.symm (by assumption) | exact Nat.ne_of_lt (by assumption) | exact Nat.ne_of_gt (by assumption) | exact le_big (by assumption) (by with_unfolding_all exact rfl) | exact le_big2 (by assumption) (by with_unfolding_all exact rfl) | exact lt_big (by assumption) (by with_unfolding_all exact rfl) | exact Nat.le_of_ble_eq_true (by with_unfolding_all exact rfl) | exact Nat.ne_of_gt (lt_s (by assumption)) | exact Nat.ne_of_gt (lt_s (lt_s (by assumption))) | exact Nat.ne_of_gt (lt_s (lt_s (lt_s (by assumption)))) | exact Nat.ne_of_lt (by k_extra "!lt9") | exact Nat.ne_of_gt (by k_extra "!lt9") | (refine Nat.lt_of_lt_of_le ?_ (Nat.le_refl _); k_extra "!lt9") | fail
  k_with "!k_all" => first | exact ne_of_allLt (by assumption) | exact ne_of_allLt (And.right (by assumption)) | exact ne_of_allLt (And.right (And.right (by assumption)))
  k_with "!k_handed" => with_reducible assumption
  k_with "!k_all" => first | exact ne_of_allNe (by assumption) | exact ne_of_allNe (And.right (by assumption)) | exact ne_of_allNe (And.right (And.right (by assumption)))
  k_with "!call ref" => k_extra "call ref"
  k_with "!k_all" => first | exact ne_of_lts2 (by assumption) | (with_reducible assumption)
  k_with "!k_mem" => assumption
  k_with "!callWith ref" => (k_here; k_dflt (first | (refine' callWith_K ?k1 ?k2 ?_; (case k1 => k_asm); (case k2 => k_is); k_whole) | (refine' callWith_K0 ?k1 ?k2 ?_; (case k1 => k_in); (case k2 => k_is); k_whole) | (refine' callWith_M0 ?k1 ?k2 ?_; (case k1 => k_meth); (case k2 => k_is); k_whole; try dsimp only [List.nil_append, List.cons_append]) | (refine' callWith_M ?k1 ?k2 ?k3 ?k4 ?_; (case k1 => k_asm); (case k2 => k_asm); (case k3 => k_mem); (case k4 => k_is); k_whole) | (refine' callWith_F ?k1 ?_; (case k1 => exact FnAt.of (by k_asm) (by k_mem)); k_whole)))
  k_with "!pyIter ref" => k_extra "pyIter ref"
  k_with "!eval Name" => (k_here; kc_free; k_dflt (refine' nameX_F ?N ?c ?m ?d ?_ ?a ?b; (case a => rfl); (case b => rfl); (case N => k_asm); (case c => rfl); (case m => k_mem); (case d => k_asm); k_whole))
  k_with "!exec Return some" => k_extra "exec Return some"
  k_with "!eval Dict" => (k_here; k_dflt (refine' kdn_eval (knd := PySem.intKind _ _) ?F ?N ?b ?a ?l ?e ?n ?_; (case F => k_asm); (case N => k_asm); (case b => exact Top.nolimit (by k_asm)); (case a => rfl); (case l => rfl); (case e => exact List.cons_ne_nil _ _); (case n => exact Nat.le_of_ble_eq_true rfl)); intro zqd zqh zqo zqF zqN zql1 zqlo zqhd; (try k_lt zql1))
  k_with "!k_room" => ((try simp only [depth_under_make, depth_under_kw, depth_in1, depth_deeper, depth_caller]); (show _ < (1000 : Nat)); (try dsimp only); omega)
  k_with "!k_mem" => exact List.mem_append_left _ (by assumption)
  k_with "!exec For Tuple List cons nil" => k_extra "exec For"
  k_with "pyIter ref" => refine Hold.out ?_
  k_steps
  refine ⟨?_⟩
  rename Fr _ _ _ _ => F2
  rename News _ _ _ _ => N3
  obtain ⟨BASE, N4, hls, hce, hRB, hturn, b7, b5⟩ := told_base N3 (by omega) r7 r5 (by omega) (by omega) (by omega) (by omega) (by omega) (by omega) (by omega) (by omega) (by omega) (by omega) (by omega) (by omega) (by omega)
  clear N3
  repeat (rename (_ < _ ∧ _) => zz; clear zz)
  refine told_loop rfl F2 N4 hls rfl rfl rfl ⟨?turn⟩ ⟨?done⟩
  · intro i v m₁ nx h tk own hv hoff hlm hJ F₁ N₁
    obtain ⟨T5, rfl, hT5, h57, e1, e2, e3⟩ := hJ
    obtain ⟨Dt, a, b, nd, tn, ss, bs, ns, nb, sm, bg, rfl, hDm, ham, hss, hsz, hbm, hbs, hbz, hnd⟩ := hturn v (List.mem_of_getElem? hv)
    have F₂ := fr_pins (l := [(Str.ofString "tree", _), (Str.ofString "rows", _), (Str.ofString "inner", _)]) F₁ (allC e1 (all2 e2 e3))
    have hDn : (Dt, tup3 (.int ((nd : Nat) : Int) tn) (.ref a) (.ref b)) ∈ (T5 ++ (370, tabObj #[]) :: BASE) ++ own := List.mem_append_left _ (List.mem_append_right _ (.tail _ hDm))
    clear F₁ e1 e2 e3
    k_with_none
    k_with "!c1" => first | assumption | exact And.right (by k_extra "!c2") | fail
    k_with "!c2" => first | assumption | exact And.right (by k_extra "!c3") | fail
    k_with "!c3" => first | assumption | exact And.right (by k_extra "!c4") | fail
    k_with "!c4" => first | assumption | exact And.right (by k_extra "!c5") | fail
    k_with "!c5" => first | assumption | exact And.right (by k_extra "!c6") | fail
    k_with "!c6" => first | assumption | exact And.right (by k_extra "!c7") | fail
    k_with "!c7" => first | assumption | exact And.right (by k_extra "!c8") | fail
    k_with "!c8" => assumption
    k_with "!lt9" => with_reducible first | exact And.left (by k_extra "!c1") | exact And.right (by k_extra "!c1") | fail
    k_with "!omega" => with_reducible first | exact lt_dp (by assumption) (by with_unfolding_all exact rfl) | exact lt_un (by assumption) (by with_unfolding_all exact rfl) | assumption | exact Ne.symm (by assumption) | exact Nat.ne_of_lt (by assumption) | exact Nat.ne_of_gt (by assumption) | exact le_big (by assumption) (by with_unfolding_all exact rfl) | exact le_big2 (by assumption) (by with_unfolding_all exact rfl) | exact lt_big (by assumption) (by with_unfolding_all exact rfl) | exact Nat.le_of_ble_eq_true (by with_unfolding_all exact rfl) | exact Nat.ne_of_gt (lt_s (by assumption)) | exact Nat.ne_of_gt (lt_s (lt_s (by assumption))) | exact Nat.ne_of_gt (lt_s (lt_s (lt_s (by assumption)))) | exact Nat.ne_of_lt (by k_extra "!lt9") | exact Nat.ne_of_gt (by k_extra "!lt9") | (refine Nat.lt_of_lt_of_le ?_ (Nat.le_refl _); k_extra "!lt9") | fail
    k_with "!k_all" => first | exact ne_of_allLt (by assumption) | exact ne_of_allLt (And.right (by assumption)) | exact ne_of_allLt (And.right (And.right (by assumption)))
    k_with "!k_handed" => with_reducible assumption
    k_with "!k_all" => first | exact ne_of_allNe (by assumption) | exact ne_of_allNe (And.right (by assumption)) | exact ne_of_allNe (And.right (And.right (by assumption)))
    k_with "!call ref" => k_extra "call ref"
    k_with "!k_all" => first | exact ne_of_lts2 (by assumption) | (with_reducible assumption)
    k_with "!k_mem" => assumption
    k_with "!callWith ref" => (k_here; k_dflt (first | (refine' callWith_K ?k1 ?k2 ?_; (case k1 => k_asm); (case k2 => k_is); k_whole) | (refine' callWith_K0 ?k1 ?k2 ?_; (case k1 => k_in); (case k2 => k_is); k_whole) | (refine' callWith_M0 ?k1 ?k2 ?_; (case k1 => k_meth); (case k2 => k_is); k_whole; try dsimp only [List.nil_append, List.cons_append]) | (refine' callWith_M ?k1 ?k2 ?k3 ?k4 ?_; (case k1 => k_asm); (case k2 => k_asm); (case k3 => k_mem); (case k4 => k_is); k_whole) | (refine' callWith_F ?k1 ?_; (case k1 => exact FnAt.of (by k_asm) (by k_mem)); k_whole)))
    k_with "!pyIter ref" => k_extra "pyIter ref"
    k_with "!eval Name" => (k_here; kc_free; k_dflt (refine' nameX_F ?N ?c ?m ?d ?_ ?a ?b; (case a => rfl); (case b => rfl); (case N => k_asm); (case c => rfl); (case m => k_mem); (case d => k_asm); k_whole))
    k_with "!exec Return some" => k_extra "exec Return some"
    k_with "!eval Dict" => (k_here; k_dflt (refine' kdn_eval (knd := PySem.intKind _ _) ?F ?N ?b ?a ?l ?e ?n ?_; (case F => k_asm); (case N => k_asm); (case b => exact Top.nolimit (by k_asm)); (case a => rfl); (case l => rfl); (case e => exact List.cons_ne_nil _ _); (case n => exact Nat.le_of_ble_eq_true rfl)); intro zqd zqh zqo zqF zqN zql1 zqlo zqhd; (try k_lt zql1))
    k_with "!k_room" => ((try simp only [depth_under_make, depth_under_kw, depth_in1, depth_deeper, depth_caller]); (show _ < (1000 : Nat)); (try dsimp only); omega)
    k_with "!k_mem" => exact List.mem_append_left _ (by assumption)
    k_with "!exec For Tuple List cons nil" => k_extra "exec For"
    k_with "call ref" => refine Hold.out ?_
    k_steps
    refine ⟨?_⟩
    rename Fr _ _ _ _ => F3
    rename News _ _ _ _ => N5
    have hS6 := H6.of
    have hG6 := H6.nice
    rcases hT5 with ⟨rfl, rfl⟩ | ⟨U, hU, rfl⟩
    · have h36 : ∀ p ∈ ((370, tabObj #[]) :: BASE) ++ own, p.1 ≠ 365 := fun p hp => by
        rcases List.mem_append.mp hp with hp | hp
        · rcases List.mem_cons.mp hp with rfl | hp
          · decide
          · exact b5 p hp
        · exact hoff p hp (365, tabObj #[]) (.head _)
      have hin : ∀ q ∈ BASE, q ∈ ((370, tabObj #[]) :: BASE) ++ own := fun q hq => List.mem_append_left _ (.tail _ hq)
      refine use_first (FP := ((370, tabObj #[]) :: BASE) ++ own) (nright_first hS6 hG6 hρ hnd (fun q hq => hin q (hRB q (hsR q hq))) (fun q hq => hin q (hRB q (hsT q hq))) (hin _ ham) hss hsz (hin _ hbm) hbs hbz h36) B F3 X T rfl rfl N5 h36 (by omega) (by omega) ?_
      intro U h9 tk9 hU F4 N6 hap
      clear F3 N5
      k_steps
      rename Fr _ _ _ _ => F5
      rename News _ _ _ _ => N7
      exact ⟨_, _, _, _, U.led ++ (370, tabObj #[]) :: BASE, rfl, F5, N7, fun q hq => (List.mem_append.mp hq).elim (fun h => List.mem_append_left _ h) fun h => List.mem_append_right _ (List.mem_append_left _ h), fun q hq => List.mem_append_right _ (List.mem_append_right _ hq),
        fun p hp q hq => (List.mem_append.mp hq).elim (fun h => hap p (List.mem_append_right _ hp) q h) fun h => hoff p hp q (.tail _ h), List.mem_append_right _ (.tail _ hls), U.led, rfl, .inr ⟨U, hU, rfl⟩, fun q hq e => hap (370, tabObj #[]) (.head _) q hq e.symm, rfl, rfl, rfl⟩
    · have hin : ∀ q ∈ BASE, q ∈ U.led ++ (370, tabObj #[]) :: BASE := fun q hq => List.mem_append_right _ (.tail _ hq)
      refine use_ro (FP := U.led ++ (370, tabObj #[]) :: BASE) (nright_again hS6 hG6 hρ hnd (fun q hq => hin q (hRB q (hsR q hq))) (fun q hq => hin q (hRB q (hsT q hq))) (hin _ ham) hss hsz (hin _ hbm) hbs hbz hU (fun q hq => List.mem_append_left _ hq)) B F3 X T rfl rfl N5 (fun q hq => List.mem_append_left _ hq) (by omega) (by omega) ?_
      intro v9 h9 tk9 F4 N6 ka9 hv9
      subst hv9
      clear F3 N5
      k_steps
      rename Fr _ _ _ _ => F5
      rename News _ _ _ _ => N7
      exact ⟨_, _, _, _, U.led ++ (370, tabObj #[]) :: BASE, rfl, F5, N7, fun q hq => List.mem_append_left _ hq, fun q hq => List.mem_append_right _ hq, hoff, hlm, U.led, rfl, .inr ⟨U, hU, rfl⟩, h57, rfl, rfl, rfl⟩
  · intro m₁ nx h tk hJ F₁ N₁
    obtain ⟨T5, rfl, hT5, h57, e1, e2, e3⟩ := hJ
    obtain ⟨U, hU, rfl⟩ : ∃ U : TabC, U.Ok ∧ T5 = U.led := by
      rcases hT5 with ⟨h0, _⟩ | h
      · cases h0
      · exact h
    have F₂ := fr_pins (l := [(Str.ofString "tree", _), (Str.ofString "rows", _), (Str.ofString "inner", _)]) F₁ (allC e1 (all2 e2 e3))
    clear F₁ e1 e2 e3 F2 N4
    obtain ⟨R2, hR2⟩ : ∃ R2, R2 = U.led ++ BASE := ⟨_, rfl⟩
    have N5 := nsub N₁ (l := (370, tabObj #[]) :: R2) fun q hq => by
      rw [hR2] at hq
      simp only [List.mem_cons, List.mem_append] at hq ⊢
      rcases hq with h | h | h
      · exact .inr (.inl h)
      · exact .inl h
      · exact .inr (.inr h)
    have h72 : ∀ q ∈ R2, q.1 ≠ 370 := fun q hq => by
      rw [hR2] at hq
      exact (List.mem_append.mp hq).elim (h57 q) (b7 q)
    have hB2 : ∀ q ∈ BASE, q ∈ R2 := fun q hq => by rw [hR2]; exact List.mem_append_right _ hq
    have hce2 := hB2 _ hce
    have hτ2 : ∀ q ∈ τ6.led w, q ∈ R2 := fun q hq => by rw [hR2]; exact List.mem_append_right _ (hRB q (hsT q hq))
    clear N₁
    have C9 : CodeHd g 374 370 := codeHd_of_K X (by kernel_rfl)
    have hS6 := H6.of
    k_with_none
    k_with "!c1" => first | assumption | exact And.right (by k_extra "!c2") | fail
    k_with "!c2" => first | assumption | exact And.right (by k_extra "!c3") | fail
    k_with "!c3" => first | assumption | exact And.right (by k_extra "!c4") | fail
    k_with "!c4" => first | assumption | exact And.right (by k_extra "!c5") | fail
    k_with "!c5" => first | assumption | exact And.right (by k_extra "!c6") | fail
    k_with "!c6" => first | assumption | exact And.right (by k_extra "!c7") | fail
    k_with "!c7" => first | assumption | exact And.right (by k_extra "!c8") | fail
    k_with "!c8" => assumption
    k_with "!lt9" => with_reducible first | exact And.left (by k_extra "!c1") | exact And.right (by k_extra "!c1") | fail
    k_with "!omega" => with_reducible first | exact lt_dp (by assumption) (by with_unfolding_all exact rfl) | exact lt_un (by assumption) (by with_unfolding_all exact rfl) | assumption | exact Ne.symm (by assumption) | exact Nat.ne_of_lt (by assumption) | exact Nat.ne_of_gt (by assumption) | exact le_big (by assumption) (by with_unfolding_all exact rfl) | exact le_big2 (by assumption) (by with_unfolding_all exact rfl) | exact lt_big (by assumption) (by with_unfolding_all exact rfl) | exact Nat.le_of_ble_eq_true (by with_unfolding_all exact rfl) | exact Nat.ne_of_gt (lt_s (by assumption)) | exact Nat.ne_of_gt (lt_s (lt_s (by assumption))) | exact Nat.ne_of_gt (lt_s (lt_s (lt_s (by assumption)))) | exact Nat.ne_of_lt (by k_extra "!lt9") | exact Nat.ne_of_gt (by k_extra "!lt9") | (refine Nat.lt_of_lt_of_le ?_ (Nat.le_refl _); k_extra "!lt9") | fail
    k_with "!k_all" => first | exact ne_of_allLt (by assumption) | exact ne_of_allLt (And.right (by assumption)) | exact ne_of_allLt (And.right (And.right (by assumption)))
    k_with "!k_handed" => with_reducible assumption
    k_with "!k_all" => first | exact ne_of_allNe (by assumption) | exact ne_of_allNe (And.right (by assumption)) | exact ne_of_allNe (And.right (And.right (by assumption)))
    k_with "!call ref" => k_extra "call ref"
    k_with "!k_all" => first | exact ne_of_lts2 (by assumption) | (with_reducible assumption)
    k_with "!k_mem" => assumption
    k_with "!callWith ref" => (k_here; k_dflt (first | (refine' callWith_K ?k1 ?k2 ?_; (case k1 => k_asm); (case k2 => k_is); k_whole) | (refine' callWith_K0 ?k1 ?k2 ?_; (case k1 => k_in); (case k2 => k_is); k_whole) | (refine' callWith_M0 ?k1 ?k2 ?_; (case k1 => k_meth); (case k2 => k_is); k_whole; try dsimp only [List.nil_append, List.cons_append]) | (refine' callWith_M ?k1 ?k2 ?k3 ?k4 ?_; (case k1 => k_asm); (case k2 => k_asm); (case k3 => k_mem); (case k4 => k_is); k_whole) | (refine' callWith_F ?k1 ?_; (case k1 => exact FnAt.of (by k_asm) (by k_mem)); k_whole)))
    k_with "!pyIter ref" => k_extra "pyIter ref"
    k_with "!eval Name" => (k_here; kc_free; k_dflt (refine' nameX_F ?N ?c ?m ?d ?_ ?a ?b; (case a => rfl); (case b => rfl); (case N => k_asm); (case c => rfl); (case m => k_mem); (case d => k_asm); k_whole))
    k_with "!exec Return some" => k_extra "exec Return some"
    k_with "!eval Dict" => (k_here; k_dflt (refine' kdn_eval (knd := PySem.intKind _ _) ?F ?N ?b ?a ?l ?e ?n ?_; (case F => k_asm); (case N => k_asm); (case b => exact Top.nolimit (by k_asm)); (case a => rfl); (case l => rfl); (case e => exact List.cons_ne_nil _ _); (case n => exact Nat.le_of_ble_eq_true rfl)); intro zqd zqh zqo zqF zqN zql1 zqlo zqhd; (try k_lt zql1))
    k_with "!k_room" => ((try simp only [depth_under_make, depth_under_kw, depth_in1, depth_deeper, depth_caller]); (show _ < (1000 : Nat)); (try dsimp only); omega)
    k_with "!k_mem" => exact List.mem_append_left _ (by assumption)
    k_with "!exec For Tuple List cons nil" => k_extra "exec For"
    have e9 : natInts (List.reverse (Core.six.shape.numbers (fun c => decide (c ≠ 0)) (fun _ => false) 3)) = [1, 2] := by decide +kernel
    k_with "call ref" => refine Hold.out ?_
    k_steps
    refine ⟨?_⟩
    rename Fr _ _ _ _ => F8
    rename News _ _ _ _ => N8
    obtain ⟨NEWS, N9, hNR, hN7, hl1, hl2⟩ := told_lams (w := w) N8 (by assumption) (by assumption) (by assumption) (by assumption) hce2 (by assumption)
    clear N8
    refine use_new (multi_spec (S := Core.six.shape) (i := 3) hS6 (by decide) (fun q hq => hNR q (hτ2 q hq)) hl1 hl2) B F8 X T rfl rfl N9 (fun _ h => h) (by omega) (by omega) ?_
    intro D9 o9 h9 tk9 F6 N6 ne6 nL6 ka6 hv6
    obtain ⟨us9, ed9, hv6, hU6⟩ := hv6
    subst hv6
    rw [e9] at hU6
    clear ne6 nL6
    k_steps
    rename Fr _ _ _ _ => Fz
    rename News _ _ _ _ => Nz
    have hm9 : ∀ o : Obj, (370, o) ∈ NEWS → ∀ q ∈ ((370, o) :: U.led : List (Addr × Obj)), q ∈ NEWS := fun o ho q hq => by
      rcases List.mem_cons.mp hq with rfl | h
      · exact ho
      · exact hNR q (by rw [hR2]; exact List.mem_append_left _ h)
    exact ⟨_, _, _, rfl, Fz, rfl, _, U, hU, fun q hq => ⟨(Nz q (.tail _ (.tail _ (hm9 _ hN7 q hq)))).1, in_or_new kp Nz (.tail _ (.tail _ (hm9 _ hN7 q hq)))⟩⟩
end
end
section
example : True := by
  w_top off
  k_with_none
  k_with "!c1" => first | assumption | exact And.right (by k_extra "!c2") | fail
  k_with "!c2" => first | assumption | exact And.right (by k_extra "!c3") | fail
  k_with "!c3" => first | assumption | exact And.right (by k_extra "!c4") | fail
  k_with "!c4" => first | assumption | exact And.right (by k_extra "!c5") | fail
  k_with "!c5" => first | assumption | exact And.right (by k_extra "!c6") | fail
  k_with "!c6" => first | assumption | exact And.right (by k_extra "!c7") | fail
  k_with "!c7" => first | assumption | exact And.right (by k_extra "!c8") | fail
  k_with "!c8" => assumption
  k_with "!lt9" => with_reducible first | exact And.left (by k_extra "!c1") | exact And.right (by k_extra "!c1") | fail
  k_with "!omega" => with_reducible first | exact lt_dp (by assumption) (by with_unfolding_all exact rfl) | exact lt_un (by assumption) (by with_unfolding_all exact rfl) | assumption | exact Ne.symm (by assumption) | exact Nat.ne_of_lt (by assumption) | exact Nat.ne_of_gt (by assumption) | exact le_big (by assumption) (by with_unfolding_all exact rfl) | exact le_big2 (by assumption) (by with_unfolding_all exact rfl) | exact lt_big (by assumption) (by with_unfolding_all exact rfl) | exact Nat.le_of_ble_eq_true (by with_unfolding_all exact rfl) | exact Nat.ne_of_gt (lt_s (by assumption)) | exact Nat.ne_of_gt (lt_s (lt_s (by assumption))) | exact Nat.ne_of_gt (lt_s (lt_s (lt_s (by assumption)))) | exact Nat.ne_of_lt (by k_extra "!lt9") | exact Nat.ne_of_gt (by k_extra "!lt9") | (refine Nat.lt_of_lt_of_le ?_ (Nat.le_refl _); k_extra "!lt9") | fail
  k_with "!call builtin:len" => (k_here; (with_reducible show wpAny _ _ (call (Value.builtin "len") [Value.ref _]) _ _ _); k_dflt (refine' L_len ?N ?m ?z ?_; (case N => k_asm); (case m => k_mem); (case z => omega); k_whole))
  k_with "!item" => first | (k_here; (with_reducible show wpAny _ _ (subscriptTail _ _ (Value.ref _) (Value.int _ _)) _ _ _); k_dflt (refine' kim_list ?N ?m ?c ?d ?z ?f ?x ?_; (case N => k_asm); (case m => k_mem); (case c => rfl); (case d => rfl); (case z => omega); (case f => omega); (case x => (try simp only [Int.toNat_natCast]); first | assumption | rfl | exact List.getElem?_eq_getElem (by omega)); k_whole)) | (k_here; (with_reducible show wpAny _ _ (subscriptTail _ _ (Value.ref _) (Value.int _ _)) _ _ _); k_dflt (refine' kda_item (knd := PySem.intKind _ _) ?N ?m ?d (intKind_is _ _ _ _) ?v ?_; (case N => k_asm); (case d => assumption); (case m => k_mem); (case v => assumption); k_whole))
  k_with "!subscriptTail Name Constant ref int" => k_extra "!item"
  k_with "!k_all" => first | exact ne_of_allLt (by assumption) | exact ne_of_allLt (And.right (by assumption)) | exact ne_of_allLt (And.right (And.right (by assumption)))
  k_with "!k_handed" => with_reducible assumption
  k_with "!k_all" => first | exact ne_of_allNe (by assumption) | exact ne_of_allNe (And.right (by assumption)) | exact ne_of_allNe (And.right (And.right (by assumption)))
  k_with "!k_all" => first | exact ne_of_lts2 (by assumption) | (with_reducible assumption)
  k_with "!k_mem" => assumption
  k_with "!eval Name" => (k_here; kc_free; k_dflt (refine' nameX_F ?N ?c ?m ?d ?_ ?a ?b; (case a => rfl); (case b => rfl); (case N => k_asm); (case c => rfl); (case m => k_mem); (case d => k_asm); k_whole))
  k_with "!exec Return some" => k_extra "exec Return some"
  k_with "!call builtin:len" => (k_here; (with_reducible show wpAny _ _ (call (Value.builtin "len") [Value.ref _]) _ _ _); k_dflt (refine' L_len ?N ?m ?z ?_; (case N => k_asm); (case m => k_mem); (case z => ((simp only [List.length_append, List.length_cons, List.length_nil]); omega)); k_whole))
  trivial
/-- a contract that turns its footprint, used where that stands ahead of the rest of the ledger -/
theorem use_mutA {w : World} {f : Value} {vs : List Value} {n : Nat} {FP rest : List (Addr × Obj)} {α : Type} {led : α → List (Addr × Obj)} {Rel : Value → α → Prop} {dp un : Nat} {gd : Option (List Code)} {env : Env} {outer : List Env} {A₀ : Around} {base h₀ : Heap} {L : Addr} {m : Str → Option Value}
    {p : Program} {loose : List Str} {mean : ExcName → Option Value} {mg mb : Str → Option Value} {s : Shared} {Q E : Value → Shared → Prop}
    (S : Spec w f vs n FP (fun v h' => ∃ x, Rel v x ∧ ∀ q ∈ led x, h'.get? q.1 = some q.2 ∧ (q.1 ∈ FP.map (·.1) ∨ s.heap.get? q.1 = none)) s.heap) (B : Below A₀ base outer h₀) (F : Fr h₀ L s.heap m) (X : (hd.heap_1 w.params).In h₀) (T : Top p loose mean mg mb h₀) (hf : env.frame = some L) (hk : env.scope.kind = .function)
    (N : News h₀ L s.heap (FP ++ rest)) (ap : ∀ q ∈ rest, q.1 ∉ FP.map (·.1)) (hdp : dp + n < 900) (hun : un + 16 * n < 9000)
    (k : ∀ v x h' tk', Fr h₀ L h' m → News h₀ L h' (led x ++ rest) → (∀ q ∈ rest, q.1 ∉ (led x).map (·.1)) → Rel v x → Q v { s with heap := h', toks := tk' }) :
    wpAny (model Prg w) (AA dp un gd env outer) (call f vs) Q E s := by
  refine use_mut rest (led := led) (R := fun v x => Rel v x ∧ ∀ q ∈ led x, q.1 ∈ FP.map (·.1) ∨ s.heap.get? q.1 = none) (S.mono fun v h' ⟨x, h1, h2⟩ => ⟨x, ⟨h1, fun q hq => (h2 q hq).2⟩, h2⟩) B F X T hf hk N (fun q hq => List.mem_append_left _ hq)
    (fun q hq => ⟨List.mem_append_right _ hq, ap q hq⟩) hdp hun fun v x h' tk' F' N' fr hx => ?_
  refine k v x h' tk' F' N' (fun q hq hm => ?_) hx.1
  obtain ⟨p, hp, e⟩ := List.mem_map.mp hm
  rcases hx.2 p hp with h1 | h1
  · exact ap q hq (e ▸ h1)
  · exact fr _ h1 q (List.mem_append_right _ hq) e.symm
def LawEnd (g : Heap) (L : Addr) (s : Shared) (f : Flow) (s' : Shared) : Prop :=
  f = .ret (.bool true) ∧ ∃ (h' : Heap) (tk' : Nat) (m : Str → Option Value) (news : List (Addr × Obj)) (xs ys : Array Value), s' = { s with heap := h', toks := tk' } ∧ Fr g L h' m ∧ News g L h' news ∧ (370, tabObj xs) ∈ news ∧ (365, tabObj ys) ∈ news
theorem cutLaw {M : Model} {A : Around} {t : Sem Flow} {Q : Flow → Shared → Prop} {E : Value → Shared → Prop} {s : Shared} {g : Heap} {L : Addr} {m : Str → Option Value} (_F : Fr g L s.heap m) (h : wpAny M A t (LawEnd g L s) (fun _ _ => False) s)
    (k : ∀ (h' : Heap) (tk' : Nat) (m : Str → Option Value) (news : List (Addr × Obj)) (xs ys : Array Value), Fr g L h' m → News g L h' news → (370, tabObj xs) ∈ news → (365, tabObj ys) ∈ news → Q (.ret (.bool true)) { s with heap := h', toks := tk' }) : wpAny M A t Q E s :=
  wpAny_mono h (fun _ s' ⟨e, h', tk', m, news, xs, ys, e2, F, N, h1, h2⟩ => e ▸ e2 ▸ k h' tk' m news xs ys F N h1 h2) fun _ _ e => e.elim
theorem cells5 {g h : Heap} {L c1 c2 c3 c4 c5 : Addr} {o1 o2 o3 o4 o5 : Obj} {R : List (Addr × Obj)} (N : News g L h (R ++ [(c5, o5), (c4, o4), (c3, o3), (c2, o2), (c1, o1)])) (ap : ∀ q ∈ [(c5, o5), (c4, o4), (c3, o3), (c2, o2), (c1, o1)], q.1 ∉ R.map (·.1)) :
    News g L h ((c5, o5) :: (c4, o4) :: (c3, o3) :: (c2, o2) :: (c1, o1) :: R) ∧ (∀ q ∈ R, q.1 ≠ c5) ∧ (∀ q ∈ R, q.1 ≠ c4) ∧ (∀ q ∈ R, q.1 ≠ c3) ∧ (∀ q ∈ R, q.1 ≠ c2) ∧ (∀ q ∈ R, q.1 ≠ c1) := by
  refine ⟨nsub N fun q hq => ?_, fun q hq e => ap (c5, o5) (by simp) (List.mem_map.mpr ⟨q, hq, e⟩), fun q hq e => ap (c4, o4) (by simp) (List.mem_map.mpr ⟨q, hq, e⟩), fun q hq e => ap (c3, o3) (by simp) (List.mem_map.mpr ⟨q, hq, e⟩), fun q hq e => ap (c2, o2) (by simp) (List.mem_map.mpr ⟨q, hq, e⟩), fun q hq e => ap (c1, o1) (by simp) (List.mem_map.mpr ⟨q, hq, e⟩)⟩
  simp only [List.mem_append, List.mem_cons, List.not_mem_nil, or_false] at hq ⊢
  rcases hq with h | h | h | h | h | h <;> simp [h]
theorem cells5r {g h : Heap} {L c1 c2 c3 c4 c5 : Addr} {o1 o2 o3 o4 o5 : Obj} {FP R : List (Addr × Obj)} (N : News g L h ((c5, o5) :: (c4, o4) :: (c3, o3) :: (c2, o2) :: (c1, o1) :: (FP ++ R))) (r5 : ∀ q ∈ FP, q.1 ≠ c5) (r4 : ∀ q ∈ FP, q.1 ≠ c4) (r3 : ∀ q ∈ FP, q.1 ≠ c3) (r2 : ∀ q ∈ FP, q.1 ≠ c2) (r1 : ∀ q ∈ FP, q.1 ≠ c1)
    (rR : ∀ q ∈ R, q.1 ∉ FP.map (·.1)) : News g L h (FP ++ (R ++ [(c5, o5), (c4, o4), (c3, o3), (c2, o2), (c1, o1)])) ∧ (∀ q ∈ R ++ [(c5, o5), (c4, o4), (c3, o3), (c2, o2), (c1, o1)], q.1 ∉ FP.map (·.1)) := by
  refine ⟨nsub N fun q hq => ?_, fun q hq hm => ?_⟩
  · simp only [List.mem_append, List.mem_cons, List.not_mem_nil, or_false] at hq ⊢
    rcases hq with h | h | h | h | h | h | h <;> simp [h]
  · obtain ⟨p, hp, e⟩ := List.mem_map.mp hm
    simp only [List.mem_append, List.mem_cons, List.not_mem_nil, or_false] at hq
    rcases hq with h | rfl | rfl | rfl | rfl | rfl
    · exact rR q h hm
    · exact r5 p hp e
    · exact r4 p hp e
    · exact r3 p hp e
    · exact r2 p hp e
    · exact r1 p hp e
theorem pool_spec2 {w : World} {l : Addr} {vs : List Value} {ns : List Int} {h : Heap} (hl : h.IsList l vs.toArray) (hi : IntsAre vs ns) (hz : ns.length < 1000) :
    Spec w (.ref 320) [.ref l] 3 [] (fun v h' => (∃ D o, v = .ref D ∧ h.get? D = none ∧ h'.get? D = some o ∧ ∃ x tx y ty n, 0 ≤ y ∧ y < 2147483648 ∧ o = srcL x y tx ty n) ∧ ∀ q ∈ ([] : List (Addr × Obj)), h'.get? q.1 = some q.2) h := by
  refine enter (binds := [(Str.ofString "script", .ref l)]) (by k_is) (by k_is) (fun s => BindsTo.of_eq rfl) (locs rfl) rfl rfl rfl (by decide) ?_
  intro dp un gd env outer A₀ base g L' h₁ p loose mean mg mb gs ds tk os B X T F N lt hdp hun kp
  k_fold
  have hlg : g.IsList l vs.toArray := let ⟨o, ho, r⟩ := hl; ⟨o, kp _ _ (by simp) ho, r⟩
  k_steps
  all_goals
    rename_i N' l1
    exact ⟨_, _, _, rfl, by assumption, ⟨_, _, rfl, fresh_of kp N' (.head _) (fun _ h => nomatch h), (N' _ (.head _)).1, _, _, _, _, _, fmod_lo _ (by decide), Int.lt_trans (fmod_hi _ (by decide)) (by decide), rfl⟩, fun _ h => nomatch h⟩
theorem law7 {g h : Heap} {L : Addr} {a b c1 c2 c3 c4 c5 : Addr × Obj} (N : News g L h [c5, c4, c3, c2, c1, a, b]) : News g L h ([a, b] ++ [c5, c4, c3, c2, c1]) := nsub N fun q hq => by
  simp only [List.cons_append, List.nil_append, List.mem_cons, List.not_mem_nil, or_false] at hq ⊢
  rcases hq with h | h | h | h | h | h | h <;> simp [h]
theorem law7ap {L : Addr} {o1 o2 o3 o4 o5 x y : Obj} (l : @LT.lt Nat instLTNat 370 L ∧ @LT.lt Nat instLTNat 365 L) :
    ∀ q ∈ ([(L + 1 + 1 + 1 + 1 + 1, o5), (L + 1 + 1 + 1 + 1, o4), (L + 1 + 1 + 1, o3), (L + 1 + 1, o2), (L + 1, o1)] : List (Addr × Obj)), q.1 ∉ ([(370, x), (365, y)] : List (Addr × Obj)).map (·.1) := by
  intro q hq hm
  have hL : ∀ k : Nat, @Ne Nat (L + k) 370 ∧ @Ne Nat (L + k) 365 := fun k => ⟨by have := l.1; omega, by have := l.2; omega⟩
  simp only [List.map_cons, List.map_nil, List.mem_cons, List.not_mem_nil, or_false] at hq hm
  rcases hq with rfl | rfl | rfl | rfl | rfl
  · exact hm.elim (hL 5).1 (hL 5).2
  · exact hm.elim (hL 4).1 (hL 4).2
  · exact hm.elim (hL 3).1 (hL 3).2
  · exact hm.elim (hL 2).1 (hL 2).2
  · exact hm.elim (hL 1).1 (hL 1).2
theorem sink5 {g h : Heap} {L : Addr} {a c1 c2 c3 c4 c5 : Addr × Obj} {R : List (Addr × Obj)} (N : News g L h (a :: c5 :: c4 :: c3 :: c2 :: c1 :: R)) : News g L h (c5 :: c4 :: c3 :: c2 :: c1 :: a :: R) := nsub N fun q hq => by
  simp only [List.mem_cons] at hq ⊢
  rcases hq with h | h | h | h | h | h | h <;> simp [h]
theorem one_ne {D c : Addr} {o : Obj} (h : @Ne Nat c D) : ∀ q ∈ ([(D, o)] : List (Addr × Obj)), q.1 ≠ c := fun q hq => by rw [List.mem_singleton.mp hq]; exact h.symm
theorem one_ap {D : Addr} {o : Obj} {R : List (Addr × Obj)} (h : ∀ q ∈ R, q.1 ≠ D) : ∀ q ∈ R, q.1 ∉ ([(D, o)] : List (Addr × Obj)).map (·.1) := fun q hq hm => h q hq (by simpa using hm)
theorem law_split {g h : Heap} {L c1 c2 c3 c4 c5 : Addr} {o1 o2 o3 o4 o5 : Obj} {A R : List (Addr × Obj)} (N : News g L h (A ++ (R ++ [(c5, o5), (c4, o4), (c3, o3), (c2, o2), (c1, o1)]))) (ap : ∀ q ∈ R ++ [(c5, o5), (c4, o4), (c3, o3), (c2, o2), (c1, o1)], q.1 ∉ A.map (·.1))
    (r5 : ∀ q ∈ R, q.1 ≠ c5) (r4 : ∀ q ∈ R, q.1 ≠ c4) (r3 : ∀ q ∈ R, q.1 ≠ c3) (r2 : ∀ q ∈ R, q.1 ≠ c2) (r1 : ∀ q ∈ R, q.1 ≠ c1) :
    News g L h ((c5, o5) :: (c4, o4) :: (c3, o3) :: (c2, o2) :: (c1, o1) :: (A ++ R)) ∧ ((∀ q ∈ A, q.1 ≠ c5) ∧ (∀ q ∈ A, q.1 ≠ c4) ∧ (∀ q ∈ A, q.1 ≠ c3) ∧ (∀ q ∈ A, q.1 ≠ c2) ∧ (∀ q ∈ A, q.1 ≠ c1)) ∧ (∀ q ∈ R, q.1 ∉ A.map (·.1)) := by
  refine ⟨nsub N fun q hq => ?_, ⟨fun q hq e => ap (c5, o5) (by simp) (List.mem_map.mpr ⟨q, hq, e⟩), fun q hq e => ap (c4, o4) (by simp) (List.mem_map.mpr ⟨q, hq, e⟩), fun q hq e => ap (c3, o3) (by simp) (List.mem_map.mpr ⟨q, hq, e⟩), fun q hq e => ap (c2, o2) (by simp) (List.mem_map.mpr ⟨q, hq, e⟩), fun q hq e => ap (c1, o1) (by simp) (List.mem_map.mpr ⟨q, hq, e⟩)⟩, fun q hq => ap q (List.mem_append_left _ hq)⟩
  simp only [List.mem_append, List.mem_cons, List.not_mem_nil, or_false] at hq ⊢
  rcases hq with h | h | h | h | h | h | h <;> simp [h]
theorem both {A R : List (Addr × Obj)} {c : Addr} (h1 : ∀ q ∈ A, q.1 ≠ c) (h2 : ∀ q ∈ R, q.1 ≠ c) : ∀ q ∈ A ++ R, q.1 ≠ c := fun q hq => (List.mem_append.mp hq).elim (h1 q) (h2 q)
theorem drop6 {g h : Heap} {L : Addr} {a c1 c2 c3 c4 c5 : Addr × Obj} {R : List (Addr × Obj)} (N : News g L h (c5 :: c4 :: c3 :: c2 :: c1 :: a :: R)) : News g L h (c5 :: c4 :: c3 :: c2 :: c1 :: R) := nsub N fun q hq => by
  simp only [List.mem_cons] at hq ⊢
  rcases hq with h | h | h | h | h | h <;> simp [h]
/-- the two draws of sets: the source turns, the drawn nodes are some nodes -/
def LawJ (e5 e4 e3 e2 e1 : Addr × Obj) (D : Addr) (R3 : List (Addr × Obj)) (i : Nat) (ys : List Value) (nx : List (Addr × Obj)) : Prop :=
  ∃ x y tx ty n l, nx = e5 :: e4 :: e3 :: e2 :: e1 :: (D, srcL x y tx ty n) :: R3 ∧ 0 ≤ y ∧ y < 2147483648 ∧ IntsAre ys (natInts l) ∧ l.length ≤ i
section
open LCg
variable {prog : Program} {w : World} {A : Around} {E : Value → Shared → Prop} {s : Shared} {env : Env} {h₀ : Heap} {L : Addr} {m : Str → Option Value}
theorem law_src {ct elt : Expr} {x : Str} {scope : Scope} {cl : List (Str × Addr)} {Fin : Shared → List Value → List (Addr × Obj) → Prop} {e5 e4 e3 e2 e1 : Addr × Obj} {D : Addr} {R3 : List (Addr × Obj)} {ρ : RowsC} {x' y' : Int} {tx' ty' : Tok} {n' : Nat}
    (hh : A.handled = none) (F : Fr h₀ L s.heap m) (N : News h₀ L s.heap (e5 :: e4 :: e3 :: e2 :: e1 :: (D, srcL x' y' tx' ty' n') :: R3)) (hm : (ρ.D, ρ.od) ∈ R3) (hd : ρ.od.IsDictOf (PySem.intKind Prg w) (kvsFrom 0 ρ.ents)) (lo : (ρ.D == sysModules) = false) (hsz : (kvsFrom 0 ρ.ents).length ≤ 1000)
    (y0 : 0 ≤ y') (y1 : y' < 2147483648)
    (turn : Hold (∀ g, ∀ i ys news, i < (kvsFrom 0 ρ.ents).length → LawJ e5 e4 e3 e2 e1 D R3 i ys news → ∀ v I oI C oC Da m₂ h tk, (∃ k x, (kvsFrom 0 ρ.ents)[i]? = some (k, x) ∧ (PySem.intKind Prg w).is k v = true) → NsObj oC m₂ → m₂ x = some v → Fr h₀ L h m → News h₀ L h ((I, oI) :: (C, oC) :: (Da, lst ys) :: news) → Off3 I C Da news → ((@Ne Nat I C) ∧ (@Ne Nat I Da) ∧ (@Ne Nat C Da)) →
      wpAny (model Prg w) A (isTrue ct (compEnvC scope cl C env) (eval ct (compEnvC scope cl C env))) (fun ok s' => if ok = true then
        wpAny (model Prg w) A (eval elt (compEnvC scope cl C env)) (CompEnd h₀ L m { { s with heap := g } with heap := h, toks := tk } I oI C oC Da (lst ys) (fun nx => (ρ.D, ρ.od) ∈ nx) (fun y news' => LawJ e5 e4 e3 e2 e1 D R3 (i + 1) (ys ++ [y]) news')) (fun _ _ => False) s'
        else CompEnd h₀ L m { { s with heap := g } with heap := h, toks := tk } I oI C oC Da (lst ys) (fun nx => (ρ.D, ρ.od) ∈ nx) (fun _ news' => LawJ e5 e4 e3 e2 e1 D R3 (i + 1) ys news') Value.none s') (fun _ _ => False) { { s with heap := g } with heap := h, toks := tk }))
    (fin : Hold (∀ g, ∀ ys news, LawJ e5 e4 e3 e2 e1 D R3 (kvsFrom 0 ρ.ents).length ys news → Fin { s with heap := g } ys news)) : SrcG Prg w A h₀ L m env ct elt x scope cl Fin E (.ref ρ.D) s :=
  src_dict (LawJ e5 e4 e3 e2 e1 D R3) hh F N (.tail _ (.tail _ (.tail _ (.tail _ (.tail _ (.tail _ hm)))))) hd lo hsz ⟨⟨_, _, _, _, _, [], rfl, y0, y1, .nil, Nat.le_refl _⟩⟩ turn fin
end
theorem sink6 {g h : Heap} {L : Addr} {a d c1 c2 c3 c4 c5 : Addr × Obj} {R : List (Addr × Obj)} (N : News g L h (a :: c5 :: c4 :: c3 :: c2 :: c1 :: d :: R)) : News g L h (c5 :: c4 :: c3 :: c2 :: c1 :: d :: (a :: R)) := nsub N fun q hq => by
  simp only [List.mem_cons] at hq ⊢
  rcases hq with h | h | h | h | h | h | h | h <;> simp [h]
theorem cons_ne {a : Addr} {o : Obj} {R : List (Addr × Obj)} {c : Addr} (h : @Ne Nat c a) (hR : ∀ q ∈ R, q.1 ≠ c) : ∀ q ∈ (a, o) :: R, q.1 ≠ c := fun q hq => (List.mem_cons.mp hq).elim (fun e => by rw [e]; exact h.symm) (hR q)
theorem gather {g h : Heap} {L a c1 c2 c3 c4 c5 dd : Addr} {o o1 o2 o3 o4 o5 od : Obj} {R : List (Addr × Obj)} (N : News g L h ((a, o) :: (c5, o5) :: (c4, o4) :: (c3, o3) :: (c2, o2) :: (c1, o1) :: (dd, od) :: R))
    (p : @Ne Nat c5 a ∧ @Ne Nat c4 a ∧ @Ne Nat c3 a ∧ @Ne Nat c2 a ∧ @Ne Nat c1 a ∧ @Ne Nat dd a) (v5 : ∀ q ∈ R, q.1 ≠ c5) (v4 : ∀ q ∈ R, q.1 ≠ c4) (v3 : ∀ q ∈ R, q.1 ≠ c3) (v2 : ∀ q ∈ R, q.1 ≠ c2) (v1 : ∀ q ∈ R, q.1 ≠ c1) (vD : ∀ q ∈ R, q.1 ≠ dd) :
    ∃ R4 : List (Addr × Obj), News g L h ((c5, o5) :: (c4, o4) :: (c3, o3) :: (c2, o2) :: (c1, o1) :: (dd, od) :: R4) ∧ (a, o) ∈ R4 ∧ (∀ q ∈ R, q ∈ R4) ∧ (∀ q ∈ R4, q.1 ≠ c5) ∧ (∀ q ∈ R4, q.1 ≠ c4) ∧ (∀ q ∈ R4, q.1 ≠ c3) ∧ (∀ q ∈ R4, q.1 ≠ c2) ∧ (∀ q ∈ R4, q.1 ≠ c1) ∧ (∀ q ∈ R4, q.1 ≠ dd) :=
  ⟨(a, o) :: R, sink6 N, .head _, fun q hq => .tail _ hq, cons_ne p.1 v5, cons_ne p.2.1 v4, cons_ne p.2.2.1 v3, cons_ne p.2.2.2.1 v2, cons_ne p.2.2.2.2.1 v1, cons_ne p.2.2.2.2.2 vD⟩
end
section
example : True := by
  w_top off
  k_with_none
  k_with "!c1" => first | assumption | exact And.right (by k_extra "!c2") | fail
  k_with "!c2" => first | assumption | exact And.right (by k_extra "!c3") | fail
  k_with "!c3" => first | assumption | exact And.right (by k_extra "!c4") | fail
  k_with "!c4" => first | assumption | exact And.right (by k_extra "!c5") | fail
  k_with "!c5" => first | assumption | exact And.right (by k_extra "!c6") | fail
  k_with "!c6" => first | assumption | exact And.right (by k_extra "!c7") | fail
  k_with "!c7" => first | assumption | exact And.right (by k_extra "!c8") | fail
  k_with "!c8" => assumption
  k_with "!lt9" => with_reducible first | exact And.left (by k_extra "!c1") | exact And.right (by k_extra "!c1") | fail
  k_with "!omega" => with_reducible first | exact lt_dp (by assumption) (by with_unfolding_all exact rfl) | exact lt_un (by assumption) (by with_unfolding_all exact rfl) | assumption | exact Ne.symm (by assumption) | exact Nat.ne_of_lt (by assumption) | exact Nat.ne_of_gt (by assumption) | exact le_big (by assumption) (by with_unfolding_all exact rfl) | exact le_big2 (by assumption) (by with_unfolding_all exact rfl) | exact lt_big (by assumption) (by with_unfolding_all exact rfl) | exact Nat.le_of_ble_eq_true (by with_unfolding_all exact rfl) | exact Nat.ne_of_gt (lt_s (by assumption)) | exact Nat.ne_of_gt (lt_s (lt_s (by assumption))) | exact Nat.ne_of_gt (lt_s (lt_s (lt_s (by assumption)))) | exact Nat.ne_of_lt (by k_extra "!lt9") | exact Nat.ne_of_gt (by k_extra "!lt9") | (refine Nat.lt_of_lt_of_le ?_ (Nat.le_refl _); k_extra "!lt9") | fail
  k_with "!k_all" => first | exact ne_of_allLt (by assumption) | exact ne_of_allLt (And.right (by assumption)) | exact ne_of_allLt (And.right (And.right (by assumption)))
  k_with "!k_handed" => with_reducible assumption
  k_with "!k_all" => first | exact ne_of_allNe (by assumption) | exact ne_of_allNe (And.right (by assumption)) | exact ne_of_allNe (And.right (And.right (by assumption)))
  k_with "!call ref" => k_extra "call ref"
  k_with "!k_all" => first | exact ne_of_lts2 (by assumption) | (with_reducible assumption)
  k_with "!k_mem" => assumption
  k_with "!callWith ref" => (k_here; k_dflt (first | (refine' callWith_K ?k1 ?k2 ?_; (case k1 => k_asm); (case k2 => k_is); k_whole) | (refine' callWith_K0 ?k1 ?k2 ?_; (case k1 => k_in); (case k2 => k_is); k_whole) | (refine' callWith_M0 ?k1 ?k2 ?_; (case k1 => k_meth); (case k2 => k_is); k_whole; try dsimp only [List.nil_append, List.cons_append]) | (refine' callWith_M ?k1 ?k2 ?k3 ?k4 ?_; (case k1 => k_asm); (case k2 => k_asm); (case k3 => k_mem); (case k4 => k_is); k_whole) | (refine' callWith_F ?k1 ?_; (case k1 => exact FnAt.of (by k_asm) (by k_mem)); k_whole)))
  k_with "!eval ListComp" => (k_here; (rename Fr _ _ _ _ => zqlF9); k_dflt (refine comp_expr zqlF9 (by with_unfolding_all rfl) (by decide) (by rfl) (by decide) (by rfl) ?_))
  k_with "!eval Name" => (k_here; kc_free; k_dflt (refine' nameX_F ?N ?c ?m ?d ?_ ?a ?b; (case a => rfl); (case b => rfl); (case N => k_asm); (case c => rfl); (case m => k_mem); (case d => k_asm); k_whole))
  k_with "!exec Return some" => k_extra "exec Return some"
  trivial
section
example : True := by
  k_with "!U2" => ((case B => assumption); (case F => k_asm); (case X => assumption); (case T => assumption); (case hf => exact rfl); (case hk => exact rfl); (case N => k_asm); (case U => k_updF); (case hdp => ((try dsimp only); omega)); (case hun => ((try dsimp only); omega)); k_whole)
  trivial
set_option maxHeartbeats 8000000 in
theorem law_holds : PySem.Challenge.rw_xw0212_01.Holds := by
  refine hd ?_
  w_strict (k_go0; (all_goals try k_fold))
  have eA : ∀ e : Env, callerA.deeper e = AA 302 7 (some []) e [] := fun _ => rfl
  rw [eA]
  rename Fr _ _ _ _ => F0
  rename News _ _ _ _ => N0
  rename Below _ _ _ _ => B0
  refine cutLaw F0 ?walk ?good
  case good =>
    intro h' tk' m news xs ys Fz Nz h1 h2
    clear F0 N0
    refine ⟨?_, GrownAt.of Nz h1, GrownAt.of Nz h2, trivial⟩
    dsimp only
    k_steps
  rename World => w0
  rename Top _ _ _ _ _ _ => T0
  rename (Frag.In _ _) => X0
  rename (370 < _ ∧ 365 < _) => l0
  rename (Heap.IsList (ghostOf _ _) _ _) => hls
  rename (IntsAre _ _) => hints
  k_with "call ref" => refine Hold.out ?_
  k_steps
  refine ⟨?_⟩
  refine use_mutA (FP := [(370, tabObj #[]), (365, tabObj #[])]) (rest := [_, _, _, _, _]) (led := fun x : Array Value × TabC => (370, tabObj x.1) :: x.2.led) (Rel := fun v x => v = .bool true ∧ x.2.Ok) (told_spec.mono fun v h' ⟨e, xs, U, hU, hm⟩ => ⟨(xs, U), ⟨e, hU⟩, hm⟩) B0 F0 X0 T0 rfl rfl
    (law7 N0) (law7ap l0) (by decide) (by decide) ?_
  intro v1 x1 h1 tk1 F1 N1 ap1 hx1
  obtain ⟨xs, U⟩ := x1
  obtain ⟨rfl, hU⟩ := hx1
  dsimp only at N1 ap1 hU
  obtain ⟨N2, r5, r4, r3, r2, r1⟩ := cells5 N1 ap1
  obtain ⟨R1, hR1⟩ : ∃ R1, R1 = (370, tabObj xs) :: U.led := ⟨_, rfl⟩
  rw [← hR1] at N2 r5 r4 r3 r2 r1
  clear N0 N1 ap1 F0
  k_steps
  refine ⟨?_⟩
  refine use_new (FP := []) (R := fun o _ => ∃ x tx y ty n, 0 ≤ y ∧ y < 2147483648 ∧ o = srcL x y tx ty n) (pool_spec2 (hls.at fun o e => F1.keep _ o e) hints (by omega)) B0 F1 X0 T0 rfl rfl N2 (fun _ h => nomatch h) (by decide) (by decide) ?_
  intro D o h2 tk2 F2 N3 ne3 nL3 ka3 hR
  obtain ⟨x, tx, y, ty, n, y0, y1, rfl⟩ := hR
  obtain ⟨d5, d4, d3, d2, d1, dR⟩ := ne3
  dsimp only at d5 d4 d3 d2 d1
  have dR' : ∀ q ∈ R1, q.1 ≠ D := ne_of_allNe dR
  replace N3 := sink5 N3
  clear N2 F1 ka3 dR
  k_steps
  refine ⟨?_⟩
  rename Fr _ _ _ _ => F3
  rename News _ _ _ _ => N4
  obtain ⟨N5, ap5⟩ := cells5r (FP := [(D, srcL x y tx ty n)]) (R := R1) N4 (one_ne d5) (one_ne d4) (one_ne d3) (one_ne d2) (one_ne d1) (one_ap dR')
  refine use_mutA (FP := [(D, srcL x y tx ty n)]) (led := fun z : Addr × LawC => (z.1, pairT (.ref z.2.τ.aT) (.ref z.2.ρ.D)) :: z.2.led w0 D) (Rel := fun v z => v = .ref z.1 ∧ z.2.Ok w0 D) ((grown_spec y0 y1).mono fun v h' ⟨a, C, τ, ρ, x', y', tx', ty', n', ev, hW, hm⟩ => ⟨(a, ⟨C, τ, ρ, x', y', tx', ty', n'⟩), ⟨ev, hW⟩, fun q hq => ⟨(hm q hq).1, (hm q hq).2.imp (fun e => by rw [e]; exact .head _) id⟩⟩) B0 F3 X0 T0 rfl rfl N5 ap5 (by decide) (by decide) ?_
  intro v3 z h3 tk3 F4 N6 ap6 hz
  obtain ⟨a, Z⟩ := z
  obtain ⟨ev3, hZ⟩ := hz
  dsimp only at N6 ap6 hZ ev3
  subst ev3
  obtain ⟨N7, ⟨s5, s4, s3, s2, s1⟩, ap7⟩ := law_split N6 ap6 r5 r4 r3 r2 r1
  obtain ⟨R2, hR2⟩ : ∃ R2, R2 = Z.led w0 D ++ R1 := ⟨_, rfl⟩
  rw [List.cons_append, ← hR2] at N7
  have a5 := s5 _ (.head _)
  have a4 := s4 _ (.head _)
  have a3 := s3 _ (.head _)
  have a2 := s2 _ (.head _)
  have a1 := s1 _ (.head _)
  dsimp only at a5 a4 a3 a2 a1
  have u5 := hR2 ▸ both (fun q hq => s5 q (.tail _ hq)) r5
  have u4 := hR2 ▸ both (fun q hq => s4 q (.tail _ hq)) r4
  have u3 := hR2 ▸ both (fun q hq => s3 q (.tail _ hq)) r3
  have u2 := hR2 ▸ both (fun q hq => s2 q (.tail _ hq)) r2
  have u1 := hR2 ▸ both (fun q hq => s1 q (.tail _ hq)) r1
  clear N4 N5 N6 ap5 ap6 F3
  k_steps
  refine ⟨?_⟩
  rename Fr _ _ _ _ => F5
  rename News _ _ _ _ => N8
  rename (_ = Data.cell (some (Value.ref Z.τ.aT))) => dT
  rename (_ = Data.cell (some (Value.ref Z.ρ.D))) => dD
  rename (_ = Data.cell (some (Value.ref D))) => dS
  have N9 := drop6 N8
  rw [hR2] at N9
  obtain ⟨N10, ap10⟩ := cells5r (FP := Z.led w0 D) (R := R1) N9 (fun q hq => s5 q (.tail _ hq)) (fun q hq => s4 q (.tail _ hq)) (fun q hq => s3 q (.tail _ hq)) (fun q hq => s2 q (.tail _ hq)) (fun q hq => s1 q (.tail _ hq)) (fun q hq hm => ap7 q hq (.tail _ hm))
  refine use_mutA (FP := Z.led w0 D) (led := fun Z' : LawC => Z'.led w0 D) (Rel := fun _ Z' => Z'.Ok w0 D ∧ Z'.τ.aT = Z.τ.aT ∧ Z'.ρ.D = Z.ρ.D) (loose_spec hZ) B0 F5 X0 T0 rfl rfl N10 ap10 (by decide) (by decide) ?_
  intro v4 Z' h4 tk4 F6 N11 ap11 hz4
  obtain ⟨hZ', eT', eD'⟩ := hz4
  rw [← eT'] at dT
  rw [← eD'] at dD
  obtain ⟨N12, ⟨t5, t4, t3, t2, t1⟩, ap12⟩ := law_split N11 ap11 r5 r4 r3 r2 r1
  clear s5 s4 s3 s2 s1 a5 a4 a3 a2 a1 u5 u4 u3 u2 u1 N8 N9 N10 N11 ap7 ap10 ap11 F5 hR2 eT' eD' hZ
  obtain ⟨C, τ, ρ, x', y', tx', ty', n'⟩ := Z'
  dsimp only [LawC.led, LawC.Ok] at N12 t5 t4 t3 t2 t1 ap12 hZ' dT dD
  obtain ⟨R3, hR3⟩ : ∃ R3, R3 = ((ρ.D, ρ.od) :: (τ.led w0 ++ ρ.tail)) ++ R1 := ⟨_, rfl⟩
  rw [List.cons_append, ← hR3] at N12
  have v5 : ∀ q ∈ R3, q.1 ≠ _ := hR3 ▸ both (fun q hq => t5 q (.tail _ hq)) r5
  have v4 : ∀ q ∈ R3, q.1 ≠ _ := hR3 ▸ both (fun q hq => t4 q (.tail _ hq)) r4
  have v3 : ∀ q ∈ R3, q.1 ≠ _ := hR3 ▸ both (fun q hq => t3 q (.tail _ hq)) r3
  have v2 : ∀ q ∈ R3, q.1 ≠ _ := hR3 ▸ both (fun q hq => t2 q (.tail _ hq)) r2
  have v1 : ∀ q ∈ R3, q.1 ≠ _ := hR3 ▸ both (fun q hq => t1 q (.tail _ hq)) r1
  have vD : ∀ q ∈ R3, q.1 ≠ D := fun q hq => by
    rw [hR3] at hq
    rcases List.mem_append.mp hq with hq | hq
    · rcases List.mem_cons.mp hq with rfl | hq
      · exact fun e => hZ'.sD e.symm
      · exact hZ'.os q hq
    · exact fun e => ap12 q hq (by rw [e]; exact .head _)
  have hρ3 : ∀ q ∈ ρ.led, q ∈ R3 := fun q hq => by
    rw [hR3]
    refine List.mem_append_left _ ?_
    rcases List.mem_cons.mp hq with rfl | hq
    · exact .head _
    · exact .tail _ (List.mem_append_right _ hq)
  have hτ3 : ∀ q ∈ τ.led w0, q ∈ R3 := fun q hq => by rw [hR3]; exact List.mem_append_left _ (.tail _ (List.mem_append_left _ hq))
  have hU3 : ∀ q ∈ (370, tabObj xs) :: U.led, q ∈ R3 := fun q hq => by rw [hR3]; exact List.mem_append_right _ (hR1 ▸ hq)
  clear t5 t4 t3 t2 t1 r5 r4 r3 r2 r1 ap12 dR'
  have hklen : (kvsFrom 0 ρ.ents).length = C.n := by rw [kvsFrom_len]; exact hZ'.rows.len
  have hn10 := hZ'.n
  have hy0 := hZ'.y0
  have hy1 := hZ'.y1
  have hDm := hρ3 _ (.head _)
  k_with_none
  k_with "!c1" => first | assumption | exact And.right (by k_extra "!c2") | fail
  k_with "!c2" => first | assumption | exact And.right (by k_extra "!c3") | fail
  k_with "!c3" => first | assumption | exact And.right (by k_extra "!c4") | fail
  k_with "!c4" => first | assumption | exact And.right (by k_extra "!c5") | fail
  k_with "!c5" => first | assumption | exact And.right (by k_extra "!c6") | fail
  k_with "!c6" => first | assumption | exact And.right (by k_extra "!c7") | fail
  k_with "!c7" => first | assumption | exact And.right (by k_extra "!c8") | fail
  k_with "!c8" => assumption
  k_with "!lt9" => with_reducible first | exact And.left (by k_extra "!c1") | exact And.right (by k_extra "!c1") | fail
  k_with "!omega" => with_reducible first | exact lt_dp (by assumption) (by with_unfolding_all exact rfl) | exact lt_un (by assumption) (by with_unfolding_all exact rfl) | assumption | exact Ne.symm (by assumption) | exact Nat.ne_of_lt (by assumption) | exact Nat.ne_of_gt (by assumption) | exact le_big (by assumption) (by with_unfolding_all exact rfl) | exact le_big2 (by assumption) (by with_unfolding_all exact rfl) | exact lt_big (by assumption) (by with_unfolding_all exact rfl) | exact Nat.le_of_ble_eq_true (by with_unfolding_all exact rfl) | exact Nat.ne_of_gt (lt_s (by assumption)) | exact Nat.ne_of_gt (lt_s (lt_s (by assumption))) | exact Nat.ne_of_gt (lt_s (lt_s (lt_s (by assumption)))) | exact Nat.ne_of_lt (by k_extra "!lt9") | exact Nat.ne_of_gt (by k_extra "!lt9") | (refine Nat.lt_of_lt_of_le ?_ (Nat.le_refl _); k_extra "!lt9") | fail
  k_with "!k_all" => first | exact ne_of_allLt (by assumption) | exact ne_of_allLt (And.right (by assumption)) | exact ne_of_allLt (And.right (And.right (by assumption)))
  k_with "!k_handed" => with_reducible assumption
  k_with "!k_all" => first | exact ne_of_allNe (by assumption) | exact ne_of_allNe (And.right (by assumption)) | exact ne_of_allNe (And.right (And.right (by assumption)))
  k_with "!call ref" => k_extra "call ref"
  k_with "!k_all" => first | exact ne_of_lts2 (by assumption) | (with_reducible assumption)
  k_with "!k_mem" => assumption
  k_with "!callWith ref" => (k_here; k_dflt (first | (refine' callWith_K ?k1 ?k2 ?_; (case k1 => k_asm); (case k2 => k_is); k_whole) | (refine' callWith_K0 ?k1 ?k2 ?_; (case k1 => k_in); (case k2 => k_is); k_whole) | (refine' callWith_M0 ?k1 ?k2 ?_; (case k1 => k_meth); (case k2 => k_is); k_whole; try dsimp only [List.nil_append, List.cons_append]) | (refine' callWith_M ?k1 ?k2 ?k3 ?k4 ?_; (case k1 => k_asm); (case k2 => k_asm); (case k3 => k_mem); (case k4 => k_is); k_whole) | (refine' callWith_F ?k1 ?_; (case k1 => exact FnAt.of (by k_asm) (by k_mem)); k_whole)))
  k_with "!eval ListComp" => (k_here; (rename Fr _ _ _ _ => zqlF9); k_dflt (refine comp_expr zqlF9 (by with_unfolding_all rfl) (by decide) (by rfl) (by decide) (by rfl) ?_))
  k_with "!eval Name" => (k_here; kc_free; k_dflt (refine' nameX_F ?N ?c ?m ?d ?_ ?a ?b; (case a => rfl); (case b => rfl); (case N => k_asm); (case c => rfl); (case m => k_mem); (case d => k_asm); k_whole))
  k_with "!exec Return some" => k_extra "exec Return some"
  k_steps
  rename Fr _ _ _ _ => Fa
  rename News _ _ _ _ => Na
  refine law_src rfl Fa Na hDm hZ'.rows.dict hZ'.rows.lo (by omega) hy0 hy1 ⟨?turn⟩ ⟨?fin⟩
  · intro g₂ i ys news hi hJ v I oI C₉ oC Da m₂ h₂ tk₂ hP hO hm F₂ N₂ off ne
    obtain ⟨x2, y2, tx2, ty2, n2, l, rfl, y20, y21, hl, hll⟩ := hJ
    obtain ⟨ti, rfl⟩ := kv_key hP
    obtain ⟨_, _, _, _, _, ⟨oi, oc, od⟩, _⟩ := id off
    dsimp only at oi oc od
    have hUp := fun o5 o4 o3 o2 o1 oo => UpdF.tail (g := _) (p := (I, oI)) (show (I, oI).1 ≠ D from oi.symm) (UpdF.tail (p := (C₉, oC)) (show (C₉, oC).1 ≠ D from oc.symm) (UpdF.tail (p := (Da, LCg.lst ys)) (show (Da, LCg.lst ys).1 ≠ D from od.symm) (UpdF.tail (p := (_, o5)) d5 (UpdF.tail (p := (_, o4)) d4 (UpdF.tail (p := (_, o3)) d3 (UpdF.tail (p := (_, o2)) d2 (UpdF.tail (p := (_, o1)) d1 (UpdF.head (o := oo) vD))))))))
    k_with "call ref" => refine Hold.out ?_
    k_steps
    refine ⟨?_⟩
    rename Fr _ _ _ _ => Fb
    rename News _ _ _ _ => Nb
    refine use_upd (take_spec (x := x2) (y := y2) (tx := tx2) (ty := ty2) (n := n2) (by omega) (by omega) y20 y21) B0 Fb X0 T0 rfl rfl Nb (hUp _ _ _ _ _ _) (by decide) (by decide) ?_
    rintro v' o' h' tk' F' N' ⟨r', t', x', tx', y', ty', n', ev', r0', r1', y0', y1', eo'⟩
    subst ev'
    subst eo'
    clear Fb Nb hUp
    k_steps
    · rename Fr _ _ _ _ => F9
      rename News _ _ _ _ => N9
      exact ⟨_, _, _, rfl, F9, N9, off, .tail _ (.tail _ (.tail _ (.tail _ (.tail _ (.tail _ hDm))))), _, _, _, _, _, l ++ [i], rfl, by assumption, by assumption, by rw [natInts_snoc]; exact ints_snoc hl, by simp only [List.length_append, List.length_cons, List.length_nil]; omega⟩
    · rename Fr _ _ _ _ => F9
      rename News _ _ _ _ => N9
      exact ⟨_, _, _, rfl, F9, N9, off, .tail _ (.tail _ (.tail _ (.tail _ (.tail _ (.tail _ hDm))))), _, _, _, _, _, l, rfl, by assumption, by assumption, hl, Nat.le_succ_of_le hll⟩
  · intro g₂ ys news hJ
    obtain ⟨x2, y2, tx2, ty2, n2, l, rfl, y20, y21, hl, hll⟩ := hJ
    clear Fa Na
    k_with_none
    k_with "!c1" => first | assumption | exact And.right (by k_extra "!c2") | fail
    k_with "!c2" => first | assumption | exact And.right (by k_extra "!c3") | fail
    k_with "!c3" => first | assumption | exact And.right (by k_extra "!c4") | fail
    k_with "!c4" => first | assumption | exact And.right (by k_extra "!c5") | fail
    k_with "!c5" => first | assumption | exact And.right (by k_extra "!c6") | fail
    k_with "!c6" => first | assumption | exact And.right (by k_extra "!c7") | fail
    k_with "!c7" => first | assumption | exact And.right (by k_extra "!c8") | fail
    k_with "!c8" => assumption
    k_with "!lt9" => with_reducible first | exact And.left (by k_extra "!c1") | exact And.right (by k_extra "!c1") | fail
    k_with "!omega" => with_reducible first | exact lt_dp (by assumption) (by with_unfolding_all exact rfl) | exact lt_un (by assumption) (by with_unfolding_all exact rfl) | assumption | exact Ne.symm (by assumption) | exact Nat.ne_of_lt (by assumption) | exact Nat.ne_of_gt (by assumption) | exact le_big (by assumption) (by with_unfolding_all exact rfl) | exact le_big2 (by assumption) (by with_unfolding_all exact rfl) | exact lt_big (by assumption) (by with_unfolding_all exact rfl) | exact Nat.le_of_ble_eq_true (by with_unfolding_all exact rfl) | exact Nat.ne_of_gt (lt_s (by assumption)) | exact Nat.ne_of_gt (lt_s (lt_s (by assumption))) | exact Nat.ne_of_gt (lt_s (lt_s (lt_s (by assumption)))) | exact Nat.ne_of_lt (by k_extra "!lt9") | exact Nat.ne_of_gt (by k_extra "!lt9") | (refine Nat.lt_of_lt_of_le ?_ (Nat.le_refl _); k_extra "!lt9") | fail
    k_with "!k_all" => first | exact ne_of_allLt (by assumption) | exact ne_of_allLt (And.right (by assumption)) | exact ne_of_allLt (And.right (And.right (by assumption)))
    k_with "!k_handed" => with_reducible assumption
    k_with "!k_all" => first | exact ne_of_allNe (by assumption) | exact ne_of_allNe (And.right (by assumption)) | exact ne_of_allNe (And.right (And.right (by assumption)))
    k_with "!call ref" => k_extra "call ref"
    k_with "!k_all" => first | exact ne_of_lts2 (by assumption) | (with_reducible assumption)
    k_with "!k_mem" => assumption
    k_with "!callWith ref" => (k_here; k_dflt (first | (refine' callWith_K ?k1 ?k2 ?_; (case k1 => k_asm); (case k2 => k_is); k_whole) | (refine' callWith_K0 ?k1 ?k2 ?_; (case k1 => k_in); (case k2 => k_is); k_whole) | (refine' callWith_M0 ?k1 ?k2 ?_; (case k1 => k_meth); (case k2 => k_is); k_whole; try dsimp only [List.nil_append, List.cons_append]) | (refine' callWith_M ?k1 ?k2 ?k3 ?k4 ?_; (case k1 => k_asm); (case k2 => k_asm); (case k3 => k_mem); (case k4 => k_is); k_whole) | (refine' callWith_F ?k1 ?_; (case k1 => exact FnAt.of (by k_asm) (by k_mem)); k_whole)))
    k_with "!eval ListComp" => (k_here; (rename Fr _ _ _ _ => zqlF9); k_dflt (refine comp_expr zqlF9 (by with_unfolding_all rfl) (by decide) (by rfl) (by decide) (by rfl) ?_))
    k_with "!eval Name" => (k_here; kc_free; k_dflt (refine' nameX_F ?N ?c ?m ?d ?_ ?a ?b; (case a => rfl); (case b => rfl); (case N => k_asm); (case c => rfl); (case m => k_mem); (case d => k_asm); k_whole))
    k_with "!exec Return some" => k_extra "exec Return some"
    k_steps
    rename (_ ≠ _ ∧ _ ≠ _ ∧ _) => o9
    obtain ⟨p5, p4, p3, p2, p1, pD, _⟩ := o9
    rename Fr _ _ _ _ => Fa
    rename News _ _ _ _ => Na
    obtain ⟨R4, Nb, hsm4, h34, w5, w4, w3, w2, w1, vD4⟩ := gather Na ⟨p5, p4, p3, p2, p1, pD⟩ v5 v4 v3 v2 v1 vD
    clear Na
    have hDm4 := h34 _ hDm
    clear v5 v4 v3 v2 v1 vD p5 p4 p3 p2 p1 pD
    refine law_src rfl Fa Nb hDm4 hZ'.rows.dict hZ'.rows.lo (by omega) y20 y21 ⟨?turn2⟩ ⟨?fin2⟩
    · intro g₂ i ys news hi hJ v I oI C₉ oC Da m₂ h₂ tk₂ hP hO hm F₂ N₂ off ne
      obtain ⟨x2, y2, tx2, ty2, n2, l, rfl, y20, y21, hl, hll⟩ := hJ
      obtain ⟨ti, rfl⟩ := kv_key hP
      obtain ⟨_, _, _, _, _, ⟨oi, oc, od⟩, _⟩ := id off
      dsimp only at oi oc od
      have hUp := fun o5 o4 o3 o2 o1 oo => UpdF.tail (g := _) (p := (I, oI)) (show (I, oI).1 ≠ D from oi.symm) (UpdF.tail (p := (C₉, oC)) (show (C₉, oC).1 ≠ D from oc.symm) (UpdF.tail (p := (Da, LCg.lst ys)) (show (Da, LCg.lst ys).1 ≠ D from od.symm) (UpdF.tail (p := (_, o5)) d5 (UpdF.tail (p := (_, o4)) d4 (UpdF.tail (p := (_, o3)) d3 (UpdF.tail (p := (_, o2)) d2 (UpdF.tail (p := (_, o1)) d1 (UpdF.head (o := oo) vD4))))))))
      k_with "call ref" => refine Hold.out ?_
      k_steps
      refine ⟨?_⟩
      rename Fr _ _ _ _ => Fb
      rename News _ _ _ _ => Nb
      refine use_upd (take_spec (x := x2) (y := y2) (tx := tx2) (ty := ty2) (n := n2) (by omega) (by omega) y20 y21) B0 Fb X0 T0 rfl rfl Nb (hUp _ _ _ _ _ _) (by decide) (by decide) ?_
      rintro v' o' h' tk' F' N' ⟨r', t', x', tx', y', ty', n', ev', r0', r1', y0', y1', eo'⟩
      subst ev'
      subst eo'
      clear Fb Nb hUp
      k_steps
      · rename Fr _ _ _ _ => F9
        rename News _ _ _ _ => N9
        exact ⟨_, _, _, rfl, F9, N9, off, .tail _ (.tail _ (.tail _ (.tail _ (.tail _ (.tail _ hDm4))))), _, _, _, _, _, l ++ [i], rfl, by assumption, by assumption, by rw [natInts_snoc]; exact ints_snoc hl, by simp only [List.length_append, List.length_cons, List.length_nil]; omega⟩
      · rename Fr _ _ _ _ => F9
        rename News _ _ _ _ => N9
        exact ⟨_, _, _, rfl, F9, N9, off, .tail _ (.tail _ (.tail _ (.tail _ (.tail _ (.tail _ hDm4))))), _, _, _, _, _, l, rfl, by assumption, by assumption, hl, Nat.le_succ_of_le hll⟩
    · intro g₃ ys3 news hJ
      obtain ⟨x3, y3, tx3, ty3, n3, l3, rfl, y30, y31, hl3, hll3⟩ := hJ
      clear Fa Nb
      k_with_none
      k_with "!c1" => first | assumption | exact And.right (by k_extra "!c2") | fail
      k_with "!c2" => first | assumption | exact And.right (by k_extra "!c3") | fail
      k_with "!c3" => first | assumption | exact And.right (by k_extra "!c4") | fail
      k_with "!c4" => first | assumption | exact And.right (by k_extra "!c5") | fail
      k_with "!c5" => first | assumption | exact And.right (by k_extra "!c6") | fail
      k_with "!c6" => first | assumption | exact And.right (by k_extra "!c7") | fail
      k_with "!c7" => first | assumption | exact And.right (by k_extra "!c8") | fail
      k_with "!c8" => assumption
      k_with "!lt9" => with_reducible first | exact And.left (by k_extra "!c1") | exact And.right (by k_extra "!c1") | fail
      k_with "!omega" => with_reducible first | exact lt_dp (by assumption) (by with_unfolding_all exact rfl) | exact lt_un (by assumption) (by with_unfolding_all exact rfl) | assumption | exact Ne.symm (by assumption) | exact Nat.ne_of_lt (by assumption) | exact Nat.ne_of_gt (by assumption) | exact le_big (by assumption) (by with_unfolding_all exact rfl) | exact le_big2 (by assumption) (by with_unfolding_all exact rfl) | exact lt_big (by assumption) (by with_unfolding_all exact rfl) | exact Nat.le_of_ble_eq_true (by with_unfolding_all exact rfl) | exact Nat.ne_of_gt (lt_s (by assumption)) | exact Nat.ne_of_gt (lt_s (lt_s (by assumption))) | exact Nat.ne_of_gt (lt_s (lt_s (lt_s (by assumption)))) | exact Nat.ne_of_lt (by k_extra "!lt9") | exact Nat.ne_of_gt (by k_extra "!lt9") | (refine Nat.lt_of_lt_of_le ?_ (Nat.le_refl _); k_extra "!lt9") | fail
      k_with "!k_all" => first | exact ne_of_allLt (by assumption) | exact ne_of_allLt (And.right (by assumption)) | exact ne_of_allLt (And.right (And.right (by assumption)))
      k_with "!k_handed" => with_reducible assumption
      k_with "!k_all" => first | exact ne_of_allNe (by assumption) | exact ne_of_allNe (And.right (by assumption)) | exact ne_of_allNe (And.right (And.right (by assumption)))
      k_with "!call ref" => k_extra "call ref"
      k_with "!k_all" => first | exact ne_of_lts2 (by assumption) | (with_reducible assumption)
      k_with "!k_mem" => assumption
      k_with "!callWith ref" => (k_here; k_dflt (first | (refine' callWith_K ?k1 ?k2 ?_; (case k1 => k_asm); (case k2 => k_is); k_whole) | (refine' callWith_K0 ?k1 ?k2 ?_; (case k1 => k_in); (case k2 => k_is); k_whole) | (refine' callWith_M0 ?k1 ?k2 ?_; (case k1 => k_meth); (case k2 => k_is); k_whole; try dsimp only [List.nil_append, List.cons_append]) | (refine' callWith_M ?k1 ?k2 ?k3 ?k4 ?_; (case k1 => k_asm); (case k2 => k_asm); (case k3 => k_mem); (case k4 => k_is); k_whole) | (refine' callWith_F ?k1 ?_; (case k1 => exact FnAt.of (by k_asm) (by k_mem)); k_whole)))
      k_with "!eval ListComp" => (k_here; (rename Fr _ _ _ _ => zqlF9); k_dflt (refine comp_expr zqlF9 (by with_unfolding_all rfl) (by decide) (by rfl) (by decide) (by rfl) ?_))
      k_with "!eval Name" => (k_here; kc_free; k_dflt (refine' nameX_F ?N ?c ?m ?d ?_ ?a ?b; (case a => rfl); (case b => rfl); (case N => k_asm); (case c => rfl); (case m => k_mem); (case d => k_asm); k_whole))
      k_with "!exec Return some" => k_extra "exec Return some"
      k_steps
      rename (_ ≠ _ ∧ _ ≠ _ ∧ _) => o9
      obtain ⟨p5, p4, p3, p2, p1, pD, _⟩ := o9
      rename Fr _ _ _ _ => Fc
      rename News _ _ _ _ => Nc
      obtain ⟨R5, Nd, hbg5, h45, x5, x4, x3, x2, x1, vD5⟩ := gather Nc ⟨p5, p4, p3, p2, p1, pD⟩ w5 w4 w3 w2 w1 vD4
      clear Nc
      have hsm5 := h45 _ hsm4
      have hDm5 := h45 _ hDm4
      have h35 : ∀ q ∈ R3, q ∈ R5 := fun q hq => h45 q (h34 q hq)
      have hyz : ys.length < 500 := by rw [hl.length]; simp only [natInts, List.length_map]; omega
      have hyz3 : ys3.length < 500 := by rw [hl3.length]; simp only [natInts, List.length_map]; omega
      clear w5 w4 w3 w2 w1 p5 p4 p3 p2 p1 pD vD4
      refine src_dict_ro (fun k zs => zs = []) rfl Fc Nd (.tail _ (.tail _ (.tail _ (.tail _ (.tail _ (.tail _ hDm5)))))) hZ'.rows.dict hZ'.rows.lo (by omega) ⟨rfl⟩ ?turn3 ?fin3
      · refine ⟨fun g₄ k zs hk hJ v I oI C₉ oC Da m₂ h₂ tk₂ hP hO hm F₂ N₂ off ne => ?_⟩
        subst hJ
        obtain ⟨ti, rfl⟩ := kv_key hP
        have hkn : k < C.n := by omega
        k_with "call ref" => refine Hold.out ?_
        k_steps
        refine ⟨?_⟩
        rename Fr _ _ _ _ => Fe
        rename News _ _ _ _ => Ne
        refine use_ro (FP := R5) (nright_again hZ'.st.of hZ'.st.nice hZ'.rows hkn (fun q hq => h35 q (hρ3 q hq)) (fun q hq => h35 q (hτ3 q hq)) hsm5 hl hyz hbg5 hl3 hyz3 hU (fun q hq => h35 q (hU3 q (.tail _ hq)))) B0 Fe X0 T0 rfl rfl Ne (fun q hq => .tail _ (.tail _ (.tail _ (.tail _ (.tail _ (.tail _ (.tail _ (.tail _ (.tail _ hq))))))))) (by decide) (by decide) ?_
        intro v9 h9 tk9 F9 N9 ka9 hv9
        subst hv9
        clear Fe Ne
        k_steps
        rename Fr _ _ _ _ => Ff
        rename News _ _ _ _ => Nf
        exact ⟨_, _, rfl, Ff, Nf, rfl⟩
      · refine ⟨fun g₄ zs hJ => ?_⟩
        subst hJ
        k_with_none
        k_with "!c1" => first | assumption | exact And.right (by k_extra "!c2") | fail
        k_with "!c2" => first | assumption | exact And.right (by k_extra "!c3") | fail
        k_with "!c3" => first | assumption | exact And.right (by k_extra "!c4") | fail
        k_with "!c4" => first | assumption | exact And.right (by k_extra "!c5") | fail
        k_with "!c5" => first | assumption | exact And.right (by k_extra "!c6") | fail
        k_with "!c6" => first | assumption | exact And.right (by k_extra "!c7") | fail
        k_with "!c7" => first | assumption | exact And.right (by k_extra "!c8") | fail
        k_with "!c8" => assumption
        k_with "!lt9" => with_reducible first | exact And.left (by k_extra "!c1") | exact And.right (by k_extra "!c1") | fail
        k_with "!omega" => with_reducible first | exact lt_dp (by assumption) (by with_unfolding_all exact rfl) | exact lt_un (by assumption) (by with_unfolding_all exact rfl) | assumption | exact Ne.symm (by assumption) | exact Nat.ne_of_lt (by assumption) | exact Nat.ne_of_gt (by assumption) | exact le_big (by assumption) (by with_unfolding_all exact rfl) | exact le_big2 (by assumption) (by with_unfolding_all exact rfl) | exact lt_big (by assumption) (by with_unfolding_all exact rfl) | exact Nat.le_of_ble_eq_true (by with_unfolding_all exact rfl) | exact Nat.ne_of_gt (lt_s (by assumption)) | exact Nat.ne_of_gt (lt_s (lt_s (by assumption))) | exact Nat.ne_of_gt (lt_s (lt_s (lt_s (by assumption)))) | exact Nat.ne_of_lt (by k_extra "!lt9") | exact Nat.ne_of_gt (by k_extra "!lt9") | (refine Nat.lt_of_lt_of_le ?_ (Nat.le_refl _); k_extra "!lt9") | fail
        k_with "!k_all" => first | exact ne_of_allLt (by assumption) | exact ne_of_allLt (And.right (by assumption)) | exact ne_of_allLt (And.right (And.right (by assumption)))
        k_with "!k_handed" => with_reducible assumption
        k_with "!k_all" => first | exact ne_of_allNe (by assumption) | exact ne_of_allNe (And.right (by assumption)) | exact ne_of_allNe (And.right (And.right (by assumption)))
        k_with "!call ref" => k_extra "call ref"
        k_with "!k_all" => first | exact ne_of_lts2 (by assumption) | (with_reducible assumption)
        k_with "!k_mem" => assumption
        k_with "!callWith ref" => (k_here; k_dflt (first | (refine' callWith_K ?k1 ?k2 ?_; (case k1 => k_asm); (case k2 => k_is); k_whole) | (refine' callWith_K0 ?k1 ?k2 ?_; (case k1 => k_in); (case k2 => k_is); k_whole) | (refine' callWith_M0 ?k1 ?k2 ?_; (case k1 => k_meth); (case k2 => k_is); k_whole; try dsimp only [List.nil_append, List.cons_append]) | (refine' callWith_M ?k1 ?k2 ?k3 ?k4 ?_; (case k1 => k_asm); (case k2 => k_asm); (case k3 => k_mem); (case k4 => k_is); k_whole) | (refine' callWith_F ?k1 ?_; (case k1 => exact FnAt.of (by k_asm) (by k_mem)); k_whole)))
        k_with "!eval ListComp" => (k_here; (rename Fr _ _ _ _ => zqlF9); k_dflt (refine comp_expr zqlF9 (by with_unfolding_all rfl) (by decide) (by rfl) (by decide) (by rfl) ?_))
        k_with "!eval Name" => (k_here; kc_free; k_dflt (refine' nameX_F ?N ?c ?m ?d ?_ ?a ?b; (case a => rfl); (case b => rfl); (case N => k_asm); (case c => rfl); (case m => k_mem); (case d => k_asm); k_whole))
        k_with "!exec Return some" => k_extra "exec Return some"
        k_steps
        rename Fr _ _ _ _ => Ff
        rename News _ _ _ _ => Nf
        exact ⟨rfl, _, _, _, _, xs, _, rfl, Ff, Nf, .tail _ (.tail _ (.tail _ (.tail _ (.tail _ (.tail _ (.tail _ (.tail _ (h35 _ (hU3 _ (.head _)))))))))), .tail _ (.tail _ (.tail _ (.tail _ (.tail _ (.tail _ (.tail _ (.tail _ (h35 _ (hU3 _ (.tail _ (.head _)))))))))))⟩
end
end
end Mine
theorem PySem.Challenge.cw_xw0212_01_holds : PySem.Challenge.rw_xw0212_01.Holds :=
  Mine.law_holds
