import PyProof.Rows.All
import Wide.All
import OpenK.AllK
import Wide.FinOn
import PySem.Challenge.RW_on0166_01
open PySem PySem.W PyProof.Rows PySem.Calls PySem.Spec
set_option Elab.async false
set_option maxRecDepth 100000
namespace Mine
/-- the run of a text's top over a tree of objects -/
def topRunT (tb : String → Option Builtin) (p : Program) (w : World) (n₀ : Nat) (ann : Option Value) : Nat → SharedT → Thread → Option SharedT
  | 0, _, _ => none
  | n + 1, s, t => match through t with
    | true => some s
    | false => match stepOk n₀ ann t with
      | false => none
      | true => match stepT (denote tb) p w s t with
        | some (s', t') => topRunT tb p w n₀ ann n s' t'
        | none => none
theorem topRunT_of {tb : String → Option Builtin} {p : Program} {w : World} {n₀ : Nat} {ann : Option Value} : ∀ {n : Nat} {s s' : SharedT} {t : Thread}, topRunT tb p w n₀ ann n s t = some s' → topRun tb p w n₀ ann n s.abs t = some s'.abs
  | 0, _, _, _, h => by cases h
  | n + 1, s, s', t, h => by
    unfold topRunT at h
    unfold topRun
    cases ht : through t with
    | true => rw [ht] at h; cases h; rfl
    | false =>
      rw [ht] at h
      cases hk : stepOk n₀ ann t with
      | false => rw [hk] at h; cases h
      | true =>
        rw [hk] at h
        cases hs : stepT (denote tb) p w s t with
        | none => rw [hs] at h; cases h
        | some r => obtain ⟨s₂, t₂⟩ := r; rw [hs] at h; rw [stepT_spec hs]; exact topRunT_of h
noncomputable def bootT (P : Params) : BT := (.node (boot_o_0 P) (.node (boot_o_1 P) (.node (boot_o_3 P) (.node (boot_o_7 P) .nil .nil) .nil) (.node (boot_o_5 P) (.node (boot_o_9 P) .nil .nil) .nil)) (.node (boot_o_2 P) (.node (boot_o_4 P) (.node (boot_o_8 P) .nil .nil) .nil) (.node (boot_o_6 P) (.node (boot_o_10 P) .nil .nil) .nil)))
noncomputable def boot0 (P : Params) (os : OsState) : SharedT := ⟨bootT P, 11, {}, #[], boot_drawn, boot_toks, os⟩
theorem boot_abs (P : Params) (os : OsState) : (boot0 P os).abs = ⟨boot_heap P, #[], boot_drawn, boot_toks, os⟩ := rfl
def lawQ : Program := PySem.W.view PySem.Challenge.pw_on0166_01 [0, 2, 3, 5, 6, 7, 8, 9, 10, 11, 12, 14, 15, 17, 18, 19, 20, 21, 22, 23, 24]
theorem left_boot {p q : Program} {loose : List PySem.Str} {Xt : Shared → Bool} {α : Type} {Yf : Shared → α} {Ya : World → α} {N m₀ : Nat} {ann : Option Value}
    (open_ : ∀ w : World, (fencedOpening treeTable p w N).map (fun s => (s.heap, s.gens, s.drawn, s.toks)) = some (boot_heap w.params, Array.mk [], boot_drawn, boot_toks))
    (size : ∀ w : World, ((boot_heap w.params).isNs mainGlobals, (boot_heap w.params).objs.size, (boot_heap w.params).nsMap mainGlobals "__annotations__") = (true, m₀, ann))
    (run1 : ∀ (w : World) (os : OsState), (topRunT treeTable p w m₀ ann N (boot0 w.params os) (topStub p)).map (fun s => (staticsOk (importedModules p.main.body) (boot_heap w.params) s.abs.heap && namesBound p s.abs.heap && gensDone s.abs && laidKept (boot_heap w.params) s.abs.heap)) = some true)
    (run2 : ∀ (w : World) (os : OsState), (topRunT treeTable p w m₀ ann N (boot0 w.params os) (topStub p)).map (fun s => openSeen q loose (importedModules p.main.body) Xt true s.abs) = some (openGood q loose))
    (run3 : ∀ (w : World) (os : OsState), (topRunT treeTable p w m₀ ann N (boot0 w.params os) (topStub p)).map (fun s => Yf s.abs) = some (Ya w)) :
    LeftO p q loose Xt Yf Ya N true := fun w => by
  obtain ⟨⟨h, gs, d, k, os⟩, e, e'⟩ := Option.map_eq_some_iff.mp (open_ w)
  obtain ⟨rfl, rfl, rfl, rfl⟩ : h = boot_heap w.params ∧ gs = Array.mk [] ∧ d = boot_drawn ∧ k = boot_toks := by simpa using e'
  obtain ⟨z1, z2, z3⟩ : _ ∧ _ ∧ _ := by simpa only [Prod.mk.injEq] using size w
  obtain ⟨s, r, l1⟩ := Option.map_eq_some_iff.mp (run1 w os)
  have l2 := run2 w os
  have l3 := run3 w os
  rw [r] at l2 l3
  have l2 := Option.some.inj l2
  have l3 := Option.some.inj l3
  have r' := topRunT_of r
  rw [boot_abs] at r'
  have t : topFrom treeTable p w N ⟨boot_heap w.params, #[], boot_drawn, boot_toks, os⟩ = some s.abs := by
    unfold topFrom
    dsimp only
    rw [z1, z2, z3, r']
    show (match staticsOk (importedModules p.main.body) (boot_heap w.params) s.abs.heap && namesBound p s.abs.heap && gensDone s.abs && laidKept (boot_heap w.params) s.abs.heap with | true => _ | false => _) = _
    rw [l1]
  unfold openEnds
  rw [e]
  show (topFrom treeTable p w N _).map _ = _
  rw [t]
  exact congrArg some (Prod.ext l2 l3)
theorem law_run1 (w : World) (os : OsState) : (topRunT treeTable PySem.Challenge.pw_on0166_01 w 11 (some (.ref 6)) 5304 (boot0 w.params os) (topStub PySem.Challenge.pw_on0166_01)).map (fun s => (staticsOk (importedModules PySem.Challenge.pw_on0166_01.main.body) (boot_heap w.params) s.abs.heap && namesBound PySem.Challenge.pw_on0166_01 s.abs.heap && gensDone s.abs && laidKept (boot_heap w.params) s.abs.heap)) = some true := by kernel_rfl
theorem law_run2 (w : World) (os : OsState) : (topRunT treeTable PySem.Challenge.pw_on0166_01 w 11 (some (.ref 6)) 5304 (boot0 w.params os) (topStub PySem.Challenge.pw_on0166_01)).map (fun s => openSeen lawQ [PySem.Str.ofString "ToolError", PySem.Str.ofString "ACCEPT", PySem.Str.ofString "BARRED"] (importedModules PySem.Challenge.pw_on0166_01.main.body) (fun s => xlAt lawQ [(PySem.Str.ofString "ACCEPT", WData.int 1048576), (PySem.Str.ofString "BARRED", WData.int (-1048576))] s && recOk (RowW.records PySem.Challenge.rw_on0166_01.row.toRowW) s) true s.abs) = some (openGood lawQ [PySem.Str.ofString "ToolError", PySem.Str.ofString "ACCEPT", PySem.Str.ofString "BARRED"]) := by kernel_rfl
local macro_rules | `(tactic| o_head $H:term) => `(tactic| (
  refine holds_open (q := Mine.lawQ) (loose := [PySem.Str.ofString "ToolError", PySem.Str.ofString "ACCEPT", PySem.Str.ofString "BARRED"]) (Xt := fun s => xlAt Mine.lawQ [(PySem.Str.ofString "ACCEPT", WData.int 1048576), (PySem.Str.ofString "BARRED", WData.int (-1048576))] s && recOk (RowW.records PySem.Challenge.rw_on0166_01.row.toRowW) s) (XP := XL Mine.lawQ [(PySem.Str.ofString "ACCEPT", WData.int 1048576), (PySem.Str.ofString "BARRED", WData.int (-1048576))]) (Yf := Hook.obs $H) (Ya := Hook.val $H) (YP := Hook.says $H) (N := 5304) ?hl (Hook.of $H) (Hook.keeps $H) (fun s e => xl_of s (Bool.and_eq_true_iff.mp e).1) XL.keeps (by rfl) (by rfl) (by rfl) (fun s e => recFacts_of (Bool.and_eq_true_iff.mp e).2) (by rfl) (by first | assumption | decide +kernel) (by decide +kernel) ⟨rfl, rfl, rfl, rfl, rfl, by decide +kernel⟩ ?hw ?hc
  (case hl => (refine Mine.left_boot (m₀ := 11) (ann := some (.ref 6)) (boot_open (by kernel_rfl) (by decide +kernel) (fun s => by kernel_rfl)) (fun w => by kernel_rfl) Mine.law_run1 Mine.law_run2 ?_; intro w os; kernel_rfl))))
set_option maxHeartbeats 8000000
open_top hd for PySem.Challenge.rw_on0166_01
set_option maxHeartbeats 200000
-- the head leaves the walker at the top; the defs are walked without
theorem top_off : True := by
  w_top off
  trivial
-- FX
section TFX
section
variable {prog : Program} {w : World} {A A₀ : Around} {s : Shared} {base h₀ : Heap} {outer : List Env} {L : Addr} {m : Str → Option Value} {env : Env} {K : Frag} {E : Value → Shared → Prop}
  {name qual : Str} {params : Arguments} {body : List Stmt} {scope : Scope} {dV kV doc pm cdv ct oc : Value} {an od : Option Addr} {osl : Array (Option Value)} {f : Addr} {args : Args} {binds : List (Str × Value)}
  {p : Program} {loose : List Str} {mean : ExcName → Option Value} {mg mb : Str → Option Value} {R : Result → Shared → Prop}
/-- the entry of a def upon the whole heap at hand -/
theorem enter (B : Below A₀ base outer h₀) (F : Fr h₀ L s.heap m) (X₀ : K.In h₀) (T : Top p loose mean mg mb h₀) (hA : A.frames = some (env :: outer)) (hf : env.frame = some L) (hke : env.scope.kind = .function)
    (ho : K.lookup f = some ⟨oc, od, .func (fnOf name qual params body scope dV kV doc pm an cdv ct), osl⟩) (hcd : codeIn K cdv qual = true) (hroom : A.depth < recursionLimit)
    (hbind : BindsTo s (fnOf name qual params body scope dV kV doc pm an cdv ct) args binds) (hloc : ∀ y ∈ binds, scope.names.lookup y.1 = some .local)
    (h : ∀ L' h₁, Fr s.heap L' h₁ (fun y => binds.reverse.lookup y) → News s.heap L' h₁ [] → Below A base (env :: outer) s.heap → K.In s.heap → Top p loose mean mg mb s.heap →
      wpAny (model prog w) (A.deeper (envOf qual scope L' f cdv)) (execs body (envOf qual scope L' f cdv))
        (fun fl s' => R (.ok (.ret (match fl with | .ret v => v | _ => .none))) s')
        (fun e s' => wpAny (model prog w) (A.deeper (envOf qual scope L' f cdv)) (leaving (envOf qual scope L' f cdv) e) (fun _ s'' => R (.error e) s'') (fun e' s'' => R (.error e') s'') s')
        { s with heap := h₁, toks := s.toks + binds.length })
    (hco : scope.isCoroutine = false) (hgen : scope.isGenerator = false) (hk : scope.kind = .function)
    (hcell : ∀ x ∈ scope.names, x.2 ≠ .cell) : codeAny (model prog w) A (.call (.ref f) args) R s := by
  refine codeAny_call_def (fd := fnOf name qual params body scope dV kV doc pm an cdv ct) (body := body) (binds := binds) hroom ((X₀.keeps F.keep) _ _ ho) rfl (T.nolimit.keeps F.keep) (codeRec_of (X₀.keeps F.keep) hcd) rfl hbind hcell hloc (fun h₁ hns hk₁ => ?_) hco hgen hk
  have B₁ := pushX B F hf hke
  exact h s.heap.objs.size h₁ ⟨hns, hk₁, Nat.le_refl _⟩ News.nil ⟨hA, B₁.stays, B₁.frames⟩ (X₀.keeps F.keep) (T.keeps F.keep)
theorem enterC (B : Below A₀ base outer h₀) (F : Fr h₀ L s.heap m) (X₀ : K.In h₀) (T : Top p loose mean mg mb h₀) (hA : A.frames = some (env :: outer)) (hf : env.frame = some L) (hke : env.scope.kind = .function)
    (ho : K.lookup f = some ⟨oc, od, .func (fnOf name qual params body scope dV kV doc pm an cdv ct), osl⟩) (hcd : codeIn K cdv qual = true) (hroom : A.depth < recursionLimit)
    (hbind : BindsTo s (fnOf name qual params body scope dV kV doc pm an cdv ct) args binds) (hkind : (binds.all fun y => scope.names.lookup y.1 == some .local || scope.names.lookup y.1 == some .cell) = true)
    (hnd : ((cellsFrom 0 scope.names []).map (·.1)).Nodup)
    (h : ∀ L' h₁ tk cells, Fr s.heap L' h₁ (bindL (envOfC qual scope L' f cdv).kindOf binds fun _ => none) → News s.heap L' h₁ cells →
      CellsAre (bindC (envOfC qual scope L' f cdv).kindOf binds fun _ => none) (cellsFrom (L' + 1) scope.names []) cells → Below A base (env :: outer) s.heap → K.In s.heap → Top p loose mean mg mb s.heap →
      wpAny (model prog w) (A.deeper (envOfC qual scope L' f cdv)) (execs body (envOfC qual scope L' f cdv))
        (fun fl s' => R (.ok (.ret (match fl with | .ret v => v | _ => .none))) s')
        (fun e s' => wpAny (model prog w) (A.deeper (envOfC qual scope L' f cdv)) (leaving (envOfC qual scope L' f cdv) e) (fun _ s'' => R (.error e) s'') (fun e' s'' => R (.error e') s'') s')
        { s with heap := h₁, toks := tk })
    (hco : scope.isCoroutine = false) (hgen : scope.isGenerator = false) (hk : scope.kind = .function) : codeAny (model prog w) A (.call (.ref f) args) R s := by
  refine codeAny_call_function hroom ((X₀.keeps F.keep) _ _ ho) rfl hco hgen rfl (codeRec_of (X₀.keeps F.keep) hcd) (hbind _ _ _ _ ?_)
  refine wpAny_newFunctionEnv_cells hk (kindsX hkind _) fun env' he s' x => ?_
  subst he
  refine ⟨(T.nolimit.keeps F.keep).keeps x.toInCall.keep, codeAny_func ?_⟩
  obtain ⟨h₁, tk, rfl, _⟩ := x.done
  have hk₁ := x.toInCall.keep
  obtain ⟨cells, NC, Y⟩ := Cl.news (h₀ := s.heap) (Nat.le_refl _) fun n c hm => ⟨x.cell n c (lookup_of_mem_nodup (cellsFrom_names scope.names 0 (s.heap.objs.size + 1) [] [] rfl ▸ hnd) hm), x.above n c hm⟩
  have B₁ := pushX B F hf hke
  exact h s.heap.objs.size h₁ tk cells ⟨x.toInCall.ns, hk₁, Nat.le_refl _⟩ NC Y ⟨hA, B₁.stays, B₁.frames⟩ (X₀.keeps F.keep) (T.keeps F.keep)
end
/-- a place where the walk waits -/
def Stop (P : Prop) : Prop := P
theorem Stop.of {P : Prop} (h : Stop P) : P := h
end TFX
-- FZ
section TFZ
noncomputable abbrev LO : List PySem.Str := looseW lawQ [Str.ofString "ToolError", Str.ofString "ACCEPT", Str.ofString "BARRED"]
/-- what a call of the def at f with vs does from s: it ends, keeps what stood, and hands back what P tells -/
def Spec (w : World) (mean : ExcName → Option Value) (mg mb : PySem.Str → Option Value) (f : Addr) (vs : List Value) (d u : Nat) (s : Shared) (P : Value → Heap → Prop) : Prop :=
  ∀ (dp un : Nat) (gd : Option (List Code)) (cn : PySem.Str) (cs : Scope) (a : Addr) (ccd : Value) (cl : List (PySem.Str × Addr)) (outer : List Env) (A₀ : Around) (base h₀ : Heap) (L : Addr) (m : PySem.Str → Option Value) (Q E : Value → Shared → Prop),
    Below A₀ base outer h₀ → Fr h₀ L s.heap m → (hd.heap_39 w.params).In h₀ → Top lawQ LO mean mg mb h₀ → cs.kind = .function → dp + d < recursionLimit → un + u < cLine →
    (∀ r h' tk', s.heap.StaysIn h' → P r h' → Q r { s with heap := h', toks := tk' }) →
    wpAny (model Challenge.rw_on0166_01.row.prog w) (ktrTop dp un gd cn cs L a ccd cl outer) (call (.ref f) vs) Q E s
theorem Spec.use {w : World} {mean : ExcName → Option Value} {mg mb : PySem.Str → Option Value} {f : Addr} {vs : List Value} {d u : Nat} {s : Shared} {P : Value → Heap → Prop} (S : Spec w mean mg mb f vs d u s P)
    {dp un : Nat} {gd : Option (List Code)} {cn : PySem.Str} {cs : Scope} {a : Addr} {ccd : Value} {cl : List (PySem.Str × Addr)} {outer : List Env} {A₀ : Around} {base h₀ : Heap} {L : Addr} {m : PySem.Str → Option Value} {news : List (Addr × Obj)} {Q E : Value → Shared → Prop}
    (F : Fr h₀ L s.heap m) (N : News h₀ L s.heap news) (B : Below A₀ base outer h₀) (X : (hd.heap_39 w.params).In h₀) (T : Top lawQ LO mean mg mb h₀) (hk : cs.kind = .function) (hd : dp + d < recursionLimit) (hu : un + u < cLine)
    (ret : ∀ r h' tk', Fr h₀ L h' m → News h₀ L h' news → s.heap.StaysIn h' → P r h' → Q r { s with heap := h', toks := tk' }) :
    wpAny (model Challenge.rw_on0166_01.row.prog w) (ktrTop dp un gd cn cs L a ccd cl outer) (call (.ref f) vs) Q E s :=
  S _ _ _ _ _ _ _ _ _ _ _ _ _ _ _ _ B F X T hk hd hu fun r h' tk' st p => ret r h' tk' (F.after st) (N.grown st) st p
/-- a new list of ints comes back -/
def NewInts (h : Heap) (ns : List Int) (r : Value) (h' : Heap) : Prop := ∃ l ys n, r = .ref l ∧ h'.get? l = some (listOf ys.toArray n) ∧ h.get? l = none ∧ IntsAre ys ns
theorem NewInts.intro {h h' : Heap} {L l : Addr} {ys : List Value} {n : Nat} {ns : List Int} {news : List (Addr × Obj)} (N : News h L h' news) (hm : (l, listOf ys.toArray n) ∈ news) (hi : IntsAre ys ns) : NewInts h ns (.ref l) h' := ⟨l, ys, n, rfl, (N _ hm).1, (N _ hm).2.2, hi⟩
theorem isList_news {h₀ h : Heap} {L l : Addr} {its : Array Value} {n : Nat} {news : List (Addr × Obj)} (N : News h₀ L h news) (hm : (l, listOf its n) ∈ news) : h.IsList l its := ⟨_, (N _ hm).1, rfl, n, rfl⟩
def AllNe (d : Addr) : List (Addr × Obj) → Prop
  | [] => True
  | p :: r => ¬ @Eq Nat p.1 d ∧ AllNe d r
theorem allNe_of {d : Addr} : ∀ {l : List (Addr × Obj)}, (∀ p ∈ l, p.1 ≠ d) → AllNe d l
  | [], _ => trivial
  | p :: _, h => ⟨h p (.head _), allNe_of fun q hq => h q (.tail _ hq)⟩
theorem NewInts.news {h h₀ h' : Heap} {L : Addr} {m : PySem.Str → Option Value} {news : List (Addr × Obj)} {ns : List Int} {r : Value} (P : NewInts h ns r h') (F : Fr h₀ L h m) (N : News h₀ L h news) (st : h.StaysIn h') :
    ∃ l ys n, r = .ref l ∧ News h₀ L h' ((l, listOf ys.toArray n) :: news) ∧ AllNe l news ∧ IntsAre ys ns := by
  obtain ⟨l, ys, n, e, hg, hn, hi⟩ := P
  obtain ⟨oL, _, _, hL, _⟩ := F.ns
  refine ⟨l, ys, n, e, fun p hp => ?_, allNe_of fun p hp q => ?_, hi⟩
  · rcases List.mem_cons.mp hp with rfl | hp
    · refine ⟨hg, fun q => ?_, ?_⟩
      · have q' : l = L := q
        rw [q', hL] at hn; cases hn
      · cases q : h₀.get? l with
        | none => rfl
        | some o => rw [F.keep _ _ q] at hn; cases hn
    · exact ⟨st _ _ (N p hp).1, (N p hp).2⟩
  · rw [← q, (N p hp).1] at hn; cases hn
end TFZ
-- FP
section TFP
/-- one turn of the counting loop -/
def gC (c : List (Int × Int)) (n : Int) : List (Int × Int) := if -1048576 < n ∧ n < 0 then kdfPut c (-n) (kdfLook c (-n) 0 + 1) else c
/-- how often a rule stands in a row -/
def cnt (ns : List Int) (k : Int) : Int := ((ns.countP fun n => decide (-1048576 < n ∧ n < 0 ∧ -n = k) : Nat) : Int)
theorem cnt_nonneg (ns : List Int) (k : Int) : 0 ≤ cnt ns k := Int.natCast_nonneg _
theorem cnt_cons (n : Int) (ns : List Int) (k : Int) : cnt (n :: ns) k = cnt ns k + if -1048576 < n ∧ n < 0 ∧ -n = k then 1 else 0 := by
  unfold cnt
  rw [List.countP_cons]
  by_cases h : -1048576 < n ∧ n < 0 ∧ -n = k
  · simp [h]
  · simp [h]
theorem look_nil (k d : Int) : kdfLook [] k d = d := rfl
theorem look_cons (p : Int × Int) (c : List (Int × Int)) (k d : Int) : kdfLook (p :: c) k d = if p.1 = k then p.2 else kdfLook c k d := by
  unfold kdfLook
  rw [List.find?_cons]
  by_cases h : p.1 = k <;> simp [h]
theorem look_map (c : List (Int × Int)) (k v j : Int) (hc : (c.any fun p => decide (p.1 = k)) = true) : kdfLook (c.map fun p => if decide (p.1 = k) = true then (p.1, v) else p) j 0 = if j = k then v else kdfLook c j 0 := by
  induction c with
  | nil => simp at hc
  | cons p c ih =>
    rw [List.map_cons, look_cons, look_cons]
    by_cases hp : p.1 = k
    · by_cases hj : j = k
      · subst hj; simp [hp]
      · have : ¬ k = j := fun e => hj e.symm
        simp only [hp, decide_true, if_true, hj, if_false, this]
        by_cases hc' : (c.any fun p => decide (p.1 = k)) = true
        · rw [ih hc', if_neg hj]
        · have e : (c.map fun p => if decide (p.1 = k) = true then (p.1, v) else p) = c := by
            rw [List.map_eq_iff]
            intro i
            cases hi : c[i]? with
            | none => rfl
            | some q =>
              have hq : ¬ q.1 = k := fun e => hc' (List.any_eq_true.mpr ⟨q, List.mem_of_getElem? hi, by simpa using e⟩)
              simp [hq]
          rw [e]
    · have hc' : (c.any fun p => decide (p.1 = k)) = true := by simpa [hp] using hc
      by_cases hj : p.1 = j
      · have : ¬ j = k := fun e => hp (hj.trans e)
        simp [hp, hj, this]
      · simp only [hp, decide_false, Bool.false_eq_true, if_false, hj]
        exact ih hc'
theorem look_append (c : List (Int × Int)) (k v j : Int) (hc : ¬ (c.any fun p => decide (p.1 = k)) = true) : kdfLook (c ++ [(k, v)]) j 0 = if j = k then v else kdfLook c j 0 := by
  induction c with
  | nil =>
    rw [List.nil_append, look_cons, look_nil]
    by_cases h : j = k
    · simp [h]
    · have : ¬ k = j := fun e => h e.symm
      simp [h, this]
  | cons p c ih =>
    have hp : ¬ p.1 = k := fun e => hc (by simp [e])
    have hc' : ¬ (c.any fun p => decide (p.1 = k)) = true := fun e => hc (by rw [List.any_cons, e, Bool.or_true])
    rw [List.cons_append, look_cons, look_cons, ih hc']
    by_cases hj : p.1 = j
    · have : ¬ j = k := fun e => hp (hj.trans e)
      simp [hj, this]
    · simp [hj]
theorem look_put (c : List (Int × Int)) (k v j : Int) : kdfLook (kdfPut c k v) j 0 = if j = k then v else kdfLook c j 0 := by
  unfold kdfPut
  by_cases hc : (c.any fun p => decide (p.1 = k)) = true
  · rw [if_pos hc]; exact look_map c k v j hc
  · rw [if_neg hc]; exact look_append c k v j hc
theorem look_fold : ∀ (ns : List Int) (c : List (Int × Int)) (k : Int), kdfLook (ns.foldl gC c) k 0 = kdfLook c k 0 + cnt ns k
  | [], c, k => by simp [cnt]
  | n :: ns, c, k => by
    rw [List.foldl_cons, look_fold ns, cnt_cons]
    unfold gC
    by_cases h : -1048576 < n ∧ n < 0
    · rw [if_pos h, look_put]
      by_cases hk : k = -n
      · subst hk
        rw [if_pos rfl, if_pos ⟨h.1, h.2, rfl⟩]; omega
      · rw [if_neg hk, if_neg (fun q => hk q.2.2.symm)]; omega
    · rw [if_neg h, if_neg (fun q => h ⟨q.1, q.2.1⟩)]; omega
theorem has_fold : ∀ (ns : List Int) (c : List (Int × Int)) (k : Int), kdfHas (ns.foldl gC c) k = (kdfHas c k || decide (0 < cnt ns k))
  | [], c, k => by simp [cnt]
  | n :: ns, c, k => by
    rw [List.foldl_cons, has_fold ns, cnt_cons]
    have h0 := cnt_nonneg ns k
    unfold gC
    by_cases h : -1048576 < n ∧ n < 0
    · rw [if_pos h, kdyHas_put]
      by_cases hk : k = -n
      · subst hk
        rw [if_pos ⟨h.1, h.2, rfl⟩, decide_eq_true (p := 0 < cnt ns (-n) + 1) (by omega)]
        simp
      · rw [if_neg (fun q => hk q.2.2.symm), decide_eq_false hk, Bool.false_or, Int.add_zero]
    · rw [if_neg h, if_neg (fun q => h ⟨q.1, q.2.1⟩), Int.add_zero]
theorem has_key {c : List (Int × Int)} {k : Int} : k ∈ c.map (·.1) ↔ kdfHas c k = true := by
  unfold kdfHas
  rw [List.any_eq_true, List.mem_map]
  constructor
  · rintro ⟨p, hp, e⟩; exact ⟨p, hp, decide_eq_true e⟩
  · rintro ⟨p, hp, e⟩; exact ⟨p, hp, of_decide_eq_true e⟩
/-- what the second loop keeps: the best rule of those met -/
def Best (f : Int → Int) (pre : List Int) (b : Int) : Prop := (pre = [] ∧ b = 0) ∨ (b ∈ pre ∧ (∀ k ∈ pre, f k ≤ f b) ∧ ∀ k ∈ pre, k < b → f k < f b)
theorem Best.take {f : Int → Int} {pre : List Int} {b n : Int} (h : Best f pre b) (hs : ∀ k ∈ pre, k ≤ n) (hb : b = 0 → pre = []) (g : b = 0 ∨ f b < f n) : Best f (pre ++ [n]) n := by
  rcases h with ⟨rfl, rfl⟩ | ⟨h1, h2, h3⟩
  · refine .inr ⟨by simp, ?_, ?_⟩ <;> intro k hk <;> simp at hk <;> subst hk <;> omega
  · have hlt : f b < f n := g.resolve_left fun e => by rw [hb e] at h1; simp at h1
    refine .inr ⟨by simp, fun k hk => ?_, fun k hk hl => ?_⟩
    · rcases List.mem_append.mp hk with hk | hk
      · have := h2 k hk; omega
      · simp at hk; subst hk; omega
    · rcases List.mem_append.mp hk with hk | hk
      · have := h2 k hk; omega
      · simp at hk; subst hk; omega
theorem Best.keep {f : Int → Int} {pre : List Int} {b n : Int} (h : Best f pre b) (hs : ∀ k ∈ pre, k ≤ n) (hb : b ≠ 0) (g : f n ≤ f b) : Best f (pre ++ [n]) b := by
  rcases h with ⟨rfl, rfl⟩ | ⟨h1, h2, h3⟩
  · exact absurd rfl hb
  · refine .inr ⟨by simp [h1], fun k hk => ?_, fun k hk hl => ?_⟩
    · rcases List.mem_append.mp hk with hk | hk
      · exact h2 k hk
      · simp at hk; subst hk; exact g
    · rcases List.mem_append.mp hk with hk | hk
      · exact h3 k hk hl
      · simp at hk; subst hk
        have := hs b h1
        omega
end TFP
-- FS
section TFS
section
variable {prog : Program} {w : World} {A : Around} {E : Value → Shared → Prop} {s : Shared} {h₀ : Heap} {L d : Addr} {m : PySem.Str → Option Value} {news : List (Addr × Obj)} {c : List (Int × Int)}
theorem list_sort {D : Addr} {vs : List Value} {ns : List Int} {n : Nat} {Q : Value → Shared → Prop} (F : Fr h₀ L s.heap m) (N : News h₀ L s.heap ((D, listOf vs.toArray n) :: news)) (l1 : ∀ q ∈ news, q.1 < D) (hI : IntsAre vs ns) (h64 : vs.length < 64)
    (h : ∀ h' vs' ns' e, Fr h₀ L h' m → News h₀ L h' ((D, listOf vs'.toArray e) :: news) → IntsAre vs' ns' → ns'.Perm ns → ns'.Pairwise (· ≤ ·) → Q .none { s with heap := h' }) :
    wpAny (model prog w) A (call (.builtin "list.sort") [.ref D]) Q E s := by
  have z := N (D, listOf vs.toArray n) (.head _)
  have ho : s.heap.get? D = some (seqObj "list" vs.toArray n) := z.1
  refine wpAny_call_entry PyProof.Rows.slot_list_sort ⟨_, z.1, rfl⟩ PyProof.Rows.entry_list_sort (list_sort_tree (n := n) (vs := vs) ho hI h64 fun out ns' hO hp hP => ⟨.none, rfl, ?_⟩) (PyProof.Rows.args_list_sort _)
  obtain ⟨e, he⟩ := sortedHeap_at (out := out) ho
  have old : ∀ b o, b ≠ D → s.heap.get? b = some o → (sortedHeap s.heap D vs out).get? b = some o := fun b o hb q => (sortedHeap_old hb (Heap.lt_size q)).trans q
  obtain ⟨oL, a1, a2, hL, a3⟩ := F.ns
  refine h _ out.toList ns' e ⟨⟨oL, a1, a2, old _ _ (Ne.symm z.2.1) hL, a3⟩, fun b o q => old b o (fun r => ?_) (F.keep b o q), F.above⟩ (fun p hp' => ?_) hO hp hP
  · have := z.2.2; rw [← r, q] at this; cases this
  · rcases List.mem_cons.mp hp' with rfl | hm
    · exact ⟨he, z.2.1, z.2.2⟩
    · exact ⟨old _ _ (Nat.ne_of_lt (l1 _ hm)) (N p (.tail _ hm)).1, (N p (.tail _ hm)).2⟩
theorem sorted_dict {Q : Value → Shared → Prop} (hh : A.handled = none) (F : Fr h₀ L s.heap m) (N : News h₀ L s.heap news) (T : IntTab prog w s.heap d (kdfD c)) (hc : c.length < 64)
    (h : ∀ (B : Addr) h' tk vs ns' e, Fr h₀ L h' m → News h₀ L h' ((B, listOf vs.toArray e) :: news) → (∀ q ∈ news, q.1 < B) → IntsAre vs ns' → ns'.Perm (c.map (·.1)) → ns'.Pairwise (· ≤ ·) → Q (.ref B) { s with heap := h', toks := tk }) :
    wpAny (model prog w) A (call (.builtin "sorted") [.ref d]) Q E s := by
  obtain ⟨lo, kvs, hD, hf⟩ := T
  obtain ⟨ep, hat⟩ := hD.dictAt
  have hlen : kvs.length = c.length := by rw [← hf.length, kdfD_length]
  refine kdu_sorted (kdl_dict (knd := PySem.intKind prog w) (kvs := kvs) (ep := ep) lo) hh F N hat (kdl_size (by rw [hlen]; omega)) fun B h' tk vs F' N' l1 hl hv => ?_
  have hI : IntsAre vs (c.map (·.1)) := kdy_ints (by rw [hl, hlen, List.length_map]) fun j v hvj => by
    obtain ⟨k, x, hx, hk⟩ := hv j v hvj
    obtain ⟨dv, hd, _⟩ := hf.at hx
    have hd' : (c[j]?).map (fun p => (PyData.int p.1, PyData.int p.2)) = some (PyData.int k, dv) := by rw [← List.getElem?_map]; exact hd
    cases hcj : c[j]? with
    | none => rw [hcj] at hd'; cases hd'
    | some p =>
      rw [hcj] at hd'
      have e1 : PyData.int p.1 = PyData.int k := congrArg Prod.fst (Option.some.inj hd')
      injection e1 with e1
      obtain ⟨t, rfl⟩ := Value.isInt_shape hk
      exact ⟨p.1, by rw [List.getElem?_map, hcj]; rfl, t, by rw [e1]⟩
  exact list_sort F' N' l1 hI (by rw [hl, hlen]; exact hc) fun h2 vs' ns' e F2 N2 hI' hp hP => h B h2 tk vs' ns' e F2 N2 l1 hI' hp hP
end
section
variable {prog : Program} {w : World} {A : Around} {E : Value → Shared → Prop} {s : Shared} {env : Env} {h₀ : Heap} {x : PySem.Str} {body : List Stmt} {Q : Flow → Shared → Prop}
/-- a loop over a made list of ints that turns one int name; what holds of the name, by the ints taken -/
theorem iter_one {l : Addr} {vs : List Value} {ns : List Int} {nn : Nat} {m₀ : PySem.Str → Option Value} {news : List (Addr × Obj)} {y : PySem.Str} (P : List Int → Int → Prop)
    (hh : A.handled = none) (hl : (l, listOf vs.toArray nn) ∈ news) (hi : IntsAre vs ns) (F : Fr h₀ env.locals s.heap m₀) (N : News h₀ env.locals s.heap news) (hy : ∃ a₀ t₀, m₀ y = some (.int a₀ t₀) ∧ P [] a₀)
    (turn : ∀ pre n post t a ta h tk own, ns = pre ++ n :: post → OwnOff own (news.map (·.1)) → P pre a → Fr h₀ env.locals h (fun z => if z = x then some (.int n t) else if z = y then some (.int a ta) else m₀ z) → News h₀ env.locals h (news ++ own) →
      wpAny (model prog w) A (execs body env) (InvPostN h₀ env.locals (fun m' nx => nx = news ∧ (∃ a' t', m' y = some (.int a' t') ∧ P (pre ++ [n]) a') ∧ ∀ z, z ≠ x → z ≠ y → m' z = m₀ z) own (news.map (·.1)) { s with heap := h, toks := tk } Q) E { s with heap := h, toks := tk })
    (done : ∀ (u : PySem.Str → Option Value) a t h tk, P ns a → Fr h₀ env.locals h (fun z => if z = x then u z else if z = y then some (.int a t) else m₀ z) → News h₀ env.locals h news → Q .next { s with heap := h, toks := tk }) :
    wpAny (model prog w) A (pyIter (.ref l)) (fun it s₂ => LoopAtV prog w A h₀ env x body Q E it s₂) E s := by
  refine iter_invNL (fun i m nx => nx = news ∧ (∃ a t', m y = some (.int a t') ∧ P (ns.take i) a) ∧ ∀ z, z ≠ x → z ≠ y → m z = m₀ z) hh hl hi F N ⟨rfl, by simpa using hy, fun _ _ _ => rfl⟩ ?_ ?_
  · rintro i n t m₁ news₁ h tk own hn _ hoff _ ⟨rfl, ⟨a, ta, hm, hP⟩, ho⟩ F₁ N₁
    have hmap : (fun z => if z = x then some (Value.int n t) else m₁ z) = fun z => if z = x then some (.int n t) else if z = y then some (.int a ta) else m₀ z := by
      funext z; by_cases h1 : z = x <;> simp only [h1, if_true, if_false]
      by_cases h2 : z = y <;> simp only [h2, if_true, if_false]
      · exact hm
      · exact ho z h1 h2
    rw [hmap] at F₁
    obtain ⟨hlt, hg⟩ := List.getElem?_eq_some_iff.mp hn
    have hs : ns = ns.take i ++ n :: ns.drop (i + 1) := by
      rw [← hg, List.getElem_cons_drop, List.take_append_drop]
    have ht : ns.take (i + 1) = ns.take i ++ [n] := by rw [List.take_add_one, hn]; simp
    refine wpAny_mono (turn _ n _ t a ta h tk own hs hoff hP F₁ N₁) (fun f s₂ p => ?_) fun _ _ e => e
    have up : InvEndN h₀ env.locals (fun m' nx => nx = news₁ ∧ (∃ a' t', m' y = some (.int a' t') ∧ P (ns.take i ++ [n]) a') ∧ ∀ z, z ≠ x → z ≠ y → m' z = m₀ z) own (news₁.map (·.1)) { s with heap := h, toks := tk } s₂ →
        InvEndN h₀ env.locals (fun m' nx => (l, listOf vs.toArray nn) ∈ nx ∧ nx = news₁ ∧ (∃ a' t', m' y = some (.int a' t') ∧ P (ns.take (i + 1)) a') ∧ ∀ z, z ≠ x → z ≠ y → m' z = m₀ z) own (news₁.map (·.1)) { s with heap := h, toks := tk } s₂ := by
      rintro ⟨h', tk, m', news', nx, e, F', N', hn', ho', ha, hx, hm', hz⟩
      exact ⟨h', tk, m', news', nx, e, F', N', hn', ho', ha, hx ▸ hl, hx, ht ▸ hm', hz⟩
    cases f with
    | ret v => exact p
    | brk => exact p
    | next => exact up p
    | cont => exact up p
  · rintro m₁ news₁ h tk _ ⟨rfl, ⟨a, t, hm, hP⟩, ho⟩ F₁ N₁
    rw [List.take_length] at hP
    refine done m₁ a t h tk hP ?_ N₁
    have hmap : (fun z => if z = x then m₁ z else if z = y then some (Value.int a t) else m₀ z) = m₁ := by
      funext z; by_cases h1 : z = x <;> simp only [h1, if_true, if_false]
      by_cases h2 : z = y <;> simp only [h2, if_true, if_false]
      · exact hm.symm
      · exact (ho z h1 h2).symm
    rw [hmap]; exact F₁
/-- a loop over a made tuple; the ledger stands, what holds of the names by the turns taken -/
theorem iter_tup {l : Addr} {items : Array Value} {nn : Nat} {m₀ : PySem.Str → Option Value} {news : List (Addr × Obj)} (J : Nat → (PySem.Str → Option Value) → Prop)
    (hh : A.handled = none) (F : Fr h₀ env.locals s.heap m₀) (N : News h₀ env.locals s.heap ((l, { cls := .type "tuple", data := .seq items nn }) :: news)) (hne : AllNe l news) (hj : J 0 m₀)
    (turn : ∀ i v m₁ h tk own, items[i]? = some v → J i m₁ → OwnOff own (news.map (·.1)) → Fr h₀ env.locals h (fun y => if y = x then some v else m₁ y) → News h₀ env.locals h (news ++ own) →
      wpAny (model prog w) A (execs body env) (InvPostN h₀ env.locals (fun m' nx => nx = news ∧ J (i + 1) m') own (news.map (·.1)) { s with heap := h, toks := tk } Q) E { s with heap := h, toks := tk })
    (done : ∀ m₁ h tk, J items.size m₁ → Fr h₀ env.locals h m₁ → News h₀ env.locals h news → Q .next { s with heap := h, toks := tk }) :
    wpAny (model prog w) A (pyIter (.ref l)) (fun it s₂ => LoopAtV prog w A h₀ env x body Q E it s₂) E s := by
  have z := N _ (.head _)
  have ht : s.heap.IsTuple l items := ⟨_, z.1, rfl, nn, rfl⟩
  have hI : l ≠ s.heap.objs.size := Nat.ne_of_lt (Heap.lt_size z.1)
  have hnl : ∀ p ∈ news, p.1 ≠ l := by
    have aux : ∀ (r : List (Addr × Obj)), AllNe l r → ∀ p ∈ r, p.1 ≠ l := by
      intro r
      induction r with
      | nil => intro _ p hp; cases hp
      | cons q r ih =>
        intro hr p hp
        rcases List.mem_cons.mp hp with rfl | hp
        · exact hr.1
        · exact ih hr.2 p hp
    exact aux news hne
  refine wpAny_pyIter_tuple ht ?_
  have W := Walks.tuple (prog := prog) (w := w) hh s.heap.objs.size l hI items
  refine loop_invN (fun i m nx => nx = news ∧ J i m) W ?_ ?_ ?_ ?_ ⟨⟨_, Heap.get?_push_size _ rfl, rfl, rfl⟩, ht.at fun o e => Heap.get?_push_of_some _ e⟩ (F.push _) (fun p hp => ⟨Heap.get?_push_of_some _ (N p (.tail _ hp)).1, (N p (.tail _ hp)).2⟩) ⟨rfl, hj⟩ ?_ ?_
  · intro hm
    rcases List.mem_cons.mp hm with e | hm
    · exact absurd F.ns.lt (e ▸ Nat.lt_irrefl _)
    · exact z.2.1 ((List.mem_singleton.mp hm).symm)
  · intro b hb
    rw [List.mem_singleton.mp hb]
    exact next_is_new F
  · intro p hp hI'
    exact absurd (Heap.lt_size (N p (.tail _ hp)).1) ((List.mem_singleton.mp hI') ▸ Nat.lt_irrefl _)
  · intro p hp hm
    rcases List.mem_cons.mp hm with e | hm
    · exact absurd (Heap.lt_size (N p (.tail _ hp)).1) (e ▸ Nat.lt_irrefl _)
    · exact hnl p hp (List.mem_singleton.mp hm)
  · rintro i v m₁ nx h tk own _ hv _ hoff ⟨rfl, hJ⟩ F₁ N₁
    exact turn i v m₁ h tk own hv hJ hoff F₁ N₁
  · rintro m₁ nx h tk ⟨rfl, hJ⟩ F₁ N₁
    exact done m₁ h tk hJ F₁ N₁
/-- the like for a made list of whatever items -/
theorem iter_lst {l : Addr} {items : Array Value} {nn : Nat} {m₀ : PySem.Str → Option Value} {news : List (Addr × Obj)} (J : Nat → (PySem.Str → Option Value) → Prop)
    (hh : A.handled = none) (F : Fr h₀ env.locals s.heap m₀) (N : News h₀ env.locals s.heap ((l, listOf items nn) :: news)) (hne : AllNe l news) (hj : J 0 m₀)
    (turn : ∀ i v m₁ h tk own, items[i]? = some v → J i m₁ → OwnOff own (news.map (·.1)) → Fr h₀ env.locals h (fun y => if y = x then some v else m₁ y) → News h₀ env.locals h (news ++ own) →
      wpAny (model prog w) A (execs body env) (InvPostN h₀ env.locals (fun m' nx => nx = news ∧ J (i + 1) m') own (news.map (·.1)) { s with heap := h, toks := tk } Q) E { s with heap := h, toks := tk })
    (done : ∀ m₁ h tk, J items.size m₁ → Fr h₀ env.locals h m₁ → News h₀ env.locals h news → Q .next { s with heap := h, toks := tk }) :
    wpAny (model prog w) A (pyIter (.ref l)) (fun it s₂ => LoopAtV prog w A h₀ env x body Q E it s₂) E s := by
  have z := N _ (.head _)
  have ht : s.heap.IsList l items := ⟨_, z.1, rfl, nn, rfl⟩
  have hI : l ≠ s.heap.objs.size := Nat.ne_of_lt (Heap.lt_size z.1)
  have hnl : ∀ p ∈ news, p.1 ≠ l := by
    have aux : ∀ (r : List (Addr × Obj)), AllNe l r → ∀ p ∈ r, p.1 ≠ l := by
      intro r
      induction r with
      | nil => intro _ p hp; cases hp
      | cons q r ih =>
        intro hr p hp
        rcases List.mem_cons.mp hp with rfl | hp
        · exact hr.1
        · exact ih hr.2 p hp
    exact aux news hne
  refine wpAny_pyIter_list ht ?_
  have W := Walks.list (prog := prog) (w := w) hh s.heap.objs.size l hI items
  refine loop_invN (fun i m nx => nx = news ∧ J i m) W ?_ ?_ ?_ ?_ ⟨⟨_, Heap.get?_push_size _ rfl, rfl, rfl⟩, ht.at fun o e => Heap.get?_push_of_some _ e⟩ (F.push _) (fun p hp => ⟨Heap.get?_push_of_some _ (N p (.tail _ hp)).1, (N p (.tail _ hp)).2⟩) ⟨rfl, hj⟩ ?_ ?_
  · intro hm
    rcases List.mem_cons.mp hm with e | hm
    · exact absurd F.ns.lt (e ▸ Nat.lt_irrefl _)
    · exact z.2.1 ((List.mem_singleton.mp hm).symm)
  · intro b hb
    rw [List.mem_singleton.mp hb]
    exact next_is_new F
  · intro p hp hI'
    exact absurd (Heap.lt_size (N p (.tail _ hp)).1) ((List.mem_singleton.mp hI') ▸ Nat.lt_irrefl _)
  · intro p hp hm
    rcases List.mem_cons.mp hm with e | hm
    · exact absurd (Heap.lt_size (N p (.tail _ hp)).1) (e ▸ Nat.lt_irrefl _)
    · exact hnl p hp (List.mem_singleton.mp hm)
  · rintro i v m₁ nx h tk own _ hv _ hoff ⟨rfl, hJ⟩ F₁ N₁
    exact turn i v m₁ h tk own hv hJ hoff F₁ N₁
  · rintro m₁ nx h tk ⟨rfl, hJ⟩ F₁ N₁
    exact done m₁ h tk hJ F₁ N₁
theorem ints_at : ∀ {vs : List Value} {ns : List Int}, IntsAre vs ns → ∀ {i : Nat} {v : Value}, vs[i]? = some v → ∃ k t, ns[i]? = some k ∧ v = .int k t
  | _, _, .nil, i, v, h => by simp at h
  | _, _, .cons n t r, 0, v, h => by
    have e : Value.int n t = v := by simpa using h
    exact ⟨n, t, by simp, e.symm⟩
  | _, _, .cons n t r, i + 1, v, h => by
    obtain ⟨k, t', h1, h2⟩ := ints_at r (i := i) (v := v) (by simpa using h)
    exact ⟨k, t', by simpa using h1, h2⟩
theorem split_at {ns : List Int} {i : Nat} {n : Int} (hn : ns[i]? = some n) : ns = ns.take i ++ n :: ns.drop (i + 1) ∧ ns.take (i + 1) = ns.take i ++ [n] := by
  obtain ⟨hlt, hg⟩ := List.getElem?_eq_some_iff.mp hn
  exact ⟨by rw [← hg, List.getElem_cons_drop, List.take_append_drop], by rw [List.take_add_one, hn]; simp⟩
/-- a loop over a made tuple of ints that turns two int names -/
theorem iter_tup2 {l : Addr} {vs : List Value} {ks : List Int} {nn : Nat} {m₀ : PySem.Str → Option Value} {news : List (Addr × Obj)} {y y' : PySem.Str} (P : List Int → Int → Int → Prop) (hI : IntsAre vs ks)
    (hh : A.handled = none) (F : Fr h₀ env.locals s.heap m₀) (N : News h₀ env.locals s.heap ((l, { cls := .type "tuple", data := .seq vs.toArray nn }) :: news)) (hne : AllNe l news)
    (hj : ∃ a b ta tb, m₀ y = some (.int a ta) ∧ m₀ y' = some (.int b tb) ∧ P [] a b)
    (turn : ∀ pre k post t a b ta tb h tk own, ks = pre ++ k :: post → P pre a b → OwnOff own (news.map (·.1)) → Fr h₀ env.locals h (fun z => if z = x then some (.int k t) else if z = y then some (.int a ta) else if z = y' then some (.int b tb) else m₀ z) → News h₀ env.locals h (news ++ own) →
      wpAny (model prog w) A (execs body env) (InvPostN h₀ env.locals (fun m' nx => nx = news ∧ (∃ a' b' ta' tb', m' y = some (.int a' ta') ∧ m' y' = some (.int b' tb') ∧ P (pre ++ [k]) a' b') ∧ ∀ z, z ≠ x → z ≠ y → z ≠ y' → m' z = m₀ z) own (news.map (·.1)) { s with heap := h, toks := tk } Q) E { s with heap := h, toks := tk })
    (done : ∀ (u : PySem.Str → Option Value) a b ta tb h tk, P ks a b → Fr h₀ env.locals h (fun z => if z = x then u z else if z = y then some (.int a ta) else if z = y' then some (.int b tb) else m₀ z) → News h₀ env.locals h news → Q .next { s with heap := h, toks := tk }) :
    wpAny (model prog w) A (pyIter (.ref l)) (fun it s₂ => LoopAtV prog w A h₀ env x body Q E it s₂) E s := by
  refine iter_tup (fun i m => (∃ a b ta tb, m y = some (.int a ta) ∧ m y' = some (.int b tb) ∧ P (ks.take i) a b) ∧ ∀ z, z ≠ x → z ≠ y → z ≠ y' → m z = m₀ z) hh F N hne ⟨by simpa using hj, fun _ _ _ _ => rfl⟩ ?_ ?_
  · rintro i v m₁ h tk own hv ⟨⟨a, b, ta, tb, ha, hb, hP⟩, hm⟩ hoff F₁ N₁
    obtain ⟨k, t, hk, rfl⟩ := ints_at hI (i := i) (v := v) (by simpa using hv)
    obtain ⟨h1, h2⟩ := split_at hk
    rw [map_two ha hb hm] at F₁
    rw [h2]
    exact turn _ k _ t a b ta tb h tk own h1 hP hoff F₁ N₁
  · rintro m₁ h tk ⟨⟨a, b, ta, tb, ha, hb, hP⟩, hm⟩ F₁ N₁
    have e : vs.toArray.size = ks.length := by simp [hI.length]
    rw [e, List.take_length] at hP
    refine done m₁ a b ta tb h tk hP ?_ N₁
    rw [done_two ha hb hm]
    exact F₁
/-- a loop over range(n) -/
theorem iter_rng {r : Addr} {n : Nat} {b₀ : Int} {t₀ u₀ v₀ : Tok} {m₀ : PySem.Str → Option Value} {news : List (Addr × Obj)} (J : Nat → (PySem.Str → Option Value) → List (Addr × Obj) → Prop)
    (hh : A.handled = none) (hr : IsRange s.heap r 0 b₀ 1 t₀ u₀ v₀) (hsmall : Builtin.Range.small 0 b₀ 1 = true) (hn : Builtin.Range.rangeSize 0 b₀ 1 = (n : Int)) (F : Fr h₀ env.locals s.heap m₀) (N : News h₀ env.locals s.heap news) (hj : J 0 m₀ news)
    (turn : ∀ (i : Nat) t m₁ nx h tk own, i < n → nx.map (·.1) = news.map (·.1) → OwnOff own (news.map (·.1)) → J i m₁ nx → Fr h₀ env.locals h (fun y => if y = x then some (.int (i : Int) t) else m₁ y) → News h₀ env.locals h (nx ++ own) →
      wpAny (model prog w) A (execs body env) (InvPostN h₀ env.locals (J (i + 1)) own (news.map (·.1)) { s with heap := h, toks := tk } Q) E { s with heap := h, toks := tk })
    (done : ∀ m₁ nx h tk, J n m₁ nx → Fr h₀ env.locals h m₁ → News h₀ env.locals h nx → Q .next { s with heap := h, toks := tk }) :
    wpAny (model prog w) A (pyIter (.ref r)) (fun it s₂ => LoopAtV prog w A h₀ env x body Q E it s₂) E s := by
  refine wpAny_pyIter_range hr hsmall ?_
  have W := Walks.range (prog := prog) (w := w) (A := A) hh s.heap.objs.size 0 1 n
  refine loop_invN J W ?_ ?_ ?_ ?_ (by show IsRangeIter _ _ _ _ _; rw [hn]; simpa using Heap.get?_push_size _ rfl) (F.push _) (fun p hp => ⟨Heap.get?_push_of_some _ (N p hp).1, (N p hp).2⟩) hj ?_ ?_
  · intro hm
    exact absurd F.ns.lt ((List.mem_singleton.mp hm) ▸ Nat.lt_irrefl _)
  · intro b hb
    rw [List.mem_singleton.mp hb]
    exact next_is_new F
  · intro p hp hI
    exact absurd (Heap.lt_size (N p hp).1) ((List.mem_singleton.mp hI) ▸ Nat.lt_irrefl _)
  · intro p hp hI
    exact absurd (Heap.lt_size (N p hp).1) ((List.mem_singleton.mp hI) ▸ Nat.lt_irrefl _)
  · rintro i v m₁ nx h tk own hi ⟨t, rfl⟩ hadr hoff hJ F₁ N₁
    have e : (0 : Int) + (i : Int) * 1 = (i : Int) := by omega
    rw [e] at F₁
    exact turn i t m₁ nx h tk own hi hadr hoff hJ F₁ N₁
  · exact done
theorem map_gone {x y y' : PySem.Str} {m₁ m₀ : PySem.Str → Option Value} {v : Value} (hm : ∀ z, z ≠ x → z ≠ y → z ≠ y' → m₁ z = m₀ z) :
    (fun z => if z = x then some v else m₁ z) = fun z => if z = x then some v else if z = y then m₁ y else if z = y' then m₁ y' else m₀ z := by
  funext z
  by_cases h1 : z = x
  · simp [h1]
  · by_cases h2 : z = y
    · subst h2; simp [h1]
    · by_cases h3 : z = y'
      · subst h3; simp [h1, h2]
      · simp [h1, h2, h3, hm z h1 h2 h3]
theorem done_gone {x y y' : PySem.Str} {m₁ m₀ : PySem.Str → Option Value} (hm : ∀ z, z ≠ x → z ≠ y → z ≠ y' → m₁ z = m₀ z) :
    m₁ = fun z => if z = x then m₁ x else if z = y then m₁ y else if z = y' then m₁ y' else m₀ z := by
  funext z
  by_cases h1 : z = x
  · simp [h1]
  · by_cases h2 : z = y
    · subst h2; simp [h1]
    · by_cases h3 : z = y'
      · subst h3; simp [h1, h2]
      · simp [h1, h2, h3, hm z h1 h2 h3]
/-- a loop over range(n) that fills one made list with ints; two further names are forgotten -/
theorem iter_fill {r d : Addr} {n : Nat} {b₀ : Int} {t₀ u₀ v₀ : Tok} {m₀ : PySem.Str → Option Value} {y y' : PySem.Str} {vs₀ : List Value} {e₀ : Nat} {news : List (Addr × Obj)} (P : Nat → List Int → Prop)
    (hh : A.handled = none) (hr : IsRange s.heap r 0 b₀ 1 t₀ u₀ v₀) (hsmall : Builtin.Range.small 0 b₀ 1 = true) (hn : Builtin.Range.rangeSize 0 b₀ 1 = (n : Int)) (F : Fr h₀ env.locals s.heap m₀) (N : News h₀ env.locals s.heap ((d, listOf vs₀.toArray e₀) :: news))
    (hj : ∃ xs₀, IntsAre vs₀ xs₀ ∧ P 0 xs₀)
    (turn : ∀ (i : Nat) t us xs e q q' h tk own, i < n → IntsAre us xs → P i xs → OwnOff own (d :: news.map (·.1)) → Fr h₀ env.locals h (fun z => if z = x then some (.int (i : Int) t) else if z = y then q else if z = y' then q' else m₀ z) → News h₀ env.locals h (((d, listOf us.toArray e) :: news) ++ own) →
      wpAny (model prog w) A (execs body env) (InvPostN h₀ env.locals (fun m' nx => (∃ us' xs' e', nx = (d, listOf us'.toArray e') :: news ∧ IntsAre us' xs' ∧ P (i + 1) xs') ∧ ∀ z, z ≠ x → z ≠ y → z ≠ y' → m' z = m₀ z) own (d :: news.map (·.1)) { s with heap := h, toks := tk } Q) E { s with heap := h, toks := tk })
    (done : ∀ q q' q'' us xs e h tk, IntsAre us xs → P n xs → Fr h₀ env.locals h (fun z => if z = x then q else if z = y then q' else if z = y' then q'' else m₀ z) → News h₀ env.locals h ((d, listOf us.toArray e) :: news) → Q .next { s with heap := h, toks := tk }) :
    wpAny (model prog w) A (pyIter (.ref r)) (fun it s₂ => LoopAtV prog w A h₀ env x body Q E it s₂) E s := by
  obtain ⟨xs₀, hx₀, hP₀⟩ := hj
  refine iter_rng (fun i m nx => (∃ us xs e, nx = (d, listOf us.toArray e) :: news ∧ IntsAre us xs ∧ P i xs) ∧ ∀ z, z ≠ x → z ≠ y → z ≠ y' → m z = m₀ z) hh hr hsmall hn F N ⟨⟨vs₀, xs₀, e₀, rfl, hx₀, hP₀⟩, fun _ _ _ _ => rfl⟩ ?_ ?_
  · rintro i t m₁ nx h tk own hi _ hoff ⟨⟨us, xs, e, rfl, hI, hP⟩, hm⟩ F₁ N₁
    rw [map_gone hm] at F₁
    exact turn i t us xs e _ _ h tk own hi hI hP hoff F₁ N₁
  · rintro m₁ nx h tk ⟨⟨us, xs, e, rfl, hI, hP⟩, hm⟩ F₁ N₁
    rw [done_gone hm] at F₁
    exact done _ _ _ us xs e h tk hI hP F₁ N₁
/-- a loop over range(n) that looks and stores nothing but two names that are forgotten -/
theorem iter_scan {r : Addr} {n : Nat} {b₀ : Int} {t₀ u₀ v₀ : Tok} {m₀ : PySem.Str → Option Value} {y y' : PySem.Str} {news : List (Addr × Obj)} (P : Nat → Prop)
    (hh : A.handled = none) (hr : IsRange s.heap r 0 b₀ 1 t₀ u₀ v₀) (hsmall : Builtin.Range.small 0 b₀ 1 = true) (hn : Builtin.Range.rangeSize 0 b₀ 1 = (n : Int)) (F : Fr h₀ env.locals s.heap m₀) (N : News h₀ env.locals s.heap news) (hj : P 0)
    (turn : ∀ (i : Nat) t q q' h tk own, i < n → P i → OwnOff own (news.map (·.1)) → Fr h₀ env.locals h (fun z => if z = x then some (.int (i : Int) t) else if z = y then q else if z = y' then q' else m₀ z) → News h₀ env.locals h (news ++ own) →
      wpAny (model prog w) A (execs body env) (InvPostN h₀ env.locals (fun m' nx => nx = news ∧ P (i + 1) ∧ ∀ z, z ≠ x → z ≠ y → z ≠ y' → m' z = m₀ z) own (news.map (·.1)) { s with heap := h, toks := tk } Q) E { s with heap := h, toks := tk })
    (done : ∀ q q' q'' h tk, P n → Fr h₀ env.locals h (fun z => if z = x then q else if z = y then q' else if z = y' then q'' else m₀ z) → News h₀ env.locals h news → Q .next { s with heap := h, toks := tk }) :
    wpAny (model prog w) A (pyIter (.ref r)) (fun it s₂ => LoopAtV prog w A h₀ env x body Q E it s₂) E s := by
  refine iter_rng (fun i m nx => nx = news ∧ P i ∧ ∀ z, z ≠ x → z ≠ y → z ≠ y' → m z = m₀ z) hh hr hsmall hn F N ⟨rfl, hj, fun _ _ _ _ => rfl⟩ ?_ ?_
  · rintro i t m₁ nx h tk own hi _ hoff ⟨rfl, hP, hm⟩ F₁ N₁
    rw [map_gone hm] at F₁
    exact turn i t _ _ h tk own hi hP hoff F₁ N₁
  · rintro m₁ nx h tk ⟨rfl, hP, hm⟩ F₁ N₁
    rw [done_gone hm] at F₁
    exact done _ _ _ h tk hP F₁ N₁
end
theorem scan_end {h₀ h' : Heap} {L : Addr} {m' m₀ : PySem.Str → Option Value} {news news' own : List (Addr × Obj)} {tk : Nat} {x y y' : PySem.Str} {P : Prop} {s₁ : Shared}
    (F : Fr h₀ L h' m') (N : News h₀ L h' news') (hn : ∀ p ∈ news, p ∈ news') (ho : ∀ p ∈ own, p ∈ news') (hz : ∀ z, z ≠ x → z ≠ y → z ≠ y' → m' z = m₀ z) (hP : P) :
    InvEndN h₀ L (fun m' nx => nx = news ∧ P ∧ ∀ z, z ≠ x → z ≠ y → z ≠ y' → m' z = m₀ z) own (news.map (·.1)) s₁ { s₁ with heap := h', toks := tk } :=
  InvEndN.intro F N ⟨rfl, hP, hz⟩ rfl hn ho
theorem fill_end {h₀ h' : Heap} {L d : Addr} {m' m₀ : PySem.Str → Option Value} {news news' own : List (Addr × Obj)} {us : List Value} {xs : List Int} {v : Int} {t : Tok} {e' tk : Nat} {x y y' : PySem.Str} {P : List Int → Prop} {s₁ : Shared}
    (F : Fr h₀ L h' m') (N : News h₀ L h' news') (hm : (d, listOf (us.toArray.push (.int v t)) e') ∈ news') (hn : ∀ p ∈ news, p ∈ news') (ho : ∀ p ∈ own, p ∈ news') (hI : IntsAre us xs) (hz : ∀ z, z ≠ x → z ≠ y → z ≠ y' → m' z = m₀ z) (hP : P (xs ++ [v])) :
    InvEndN h₀ L (fun m' nx => (∃ us' xs' e', nx = (d, listOf us'.toArray e') :: news ∧ IntsAre us' xs' ∧ P xs') ∧ ∀ z, z ≠ x → z ≠ y → z ≠ y' → m' z = m₀ z) own (d :: news.map (·.1)) s₁ { s₁ with heap := h', toks := tk } :=
  InvEndN.intro F N ⟨⟨(us.toArray.push (.int v t)).toList, xs ++ [v], e', rfl, intsAre_push (by simpa using hI), hP⟩, hz⟩ rfl (fun p hp => by
    rcases List.mem_cons.mp hp with rfl | hp
    · exact hm
    · exact hn p hp) ho
theorem fill_same {h₀ h' : Heap} {L d : Addr} {m' m₀ : PySem.Str → Option Value} {news news' own : List (Addr × Obj)} {us : List Value} {xs : List Int} {e' tk : Nat} {x y y' : PySem.Str} {P : List Int → Prop} {s₁ : Shared}
    (F : Fr h₀ L h' m') (N : News h₀ L h' news') (hm : (d, listOf us.toArray e') ∈ news') (hn : ∀ p ∈ news, p ∈ news') (ho : ∀ p ∈ own, p ∈ news') (hI : IntsAre us xs) (hz : ∀ z, z ≠ x → z ≠ y → z ≠ y' → m' z = m₀ z) (hP : P xs) :
    InvEndN h₀ L (fun m' nx => (∃ us' xs' e', nx = (d, listOf us'.toArray e') :: news ∧ IntsAre us' xs' ∧ P xs') ∧ ∀ z, z ≠ x → z ≠ y → z ≠ y' → m' z = m₀ z) own (d :: news.map (·.1)) s₁ { s₁ with heap := h', toks := tk } :=
  InvEndN.intro F N ⟨⟨us, xs, e', rfl, hI, hP⟩, hz⟩ rfl (fun p hp => by
    rcases List.mem_cons.mp hp with rfl | hp
    · exact hm
    · exact hn p hp) ho
/-- what may stand in a cell of a row -/
def Cell (x : Int) : Prop := x ∈ ([0, 7, -1, -2, -3, -4, -1048576, 5, 1048576] : List Int)
theorem cell_menu {x : Int} (h0 : 0 ≤ x) (h1 : x < 9) : Cell (([0, 7, -1, -2, -3, -4, -1048576, 0, -2] : List Int).getD x.toNat 0) := by
  have h : x = 0 ∨ x = 1 ∨ x = 2 ∨ x = 3 ∨ x = 4 ∨ x = 5 ∨ x = 6 ∨ x = 7 ∨ x = 8 := by omega
  rcases h with rfl | rfl | rfl | rfl | rfl | rfl | rfl | rfl | rfl <;> (unfold Cell; decide)
end TFS
-- FY
section TFY
set_option maxHeartbeats 8000000 in
theorem law_at_spec (w : World) (mean : ExcName → Option Value) (mg mb : PySem.Str → Option Value) (s : Shared) (l : Addr) (vs : List Value) (ns : List Int) (k : Int) (t t' : Tok)
    (hl : s.heap.IsList l vs.toArray) (hi : IntsAre vs ns) (hn : ns.length ≤ 63) (hk0 : 0 ≤ k) (hk1 : k < 18) :
    Spec w mean mg mb 322 [.ref l, .int k t, .int 9 t'] 1 8 s (fun r _ => ∃ x tk, r = .int x tk ∧ 0 ≤ x ∧ x < 9) := by
  unfold Spec
  k_fill
  intro dp un gd cn cs a ccd cl outer A₀ base h₀ L m Q E B F X T hk hd hu ret
  refine wpAny_call ?_
  k_dflt ((first   | (refine' enter ?k1q67 ?k2q67 ?k3q67 ?k5q67 ?kAq67 ?kFq67 ?kKq67 ?k6q67 ?k7q67 ?k8q67 ?k9q67 ?kBq67 ?_ ?c2q67 ?c3q67 ?c4q67 ?c5q67; (case kAq67 => exact rfl); (case kFq67 => exact rfl); (case kKq67 => assumption); (case k1q67 => k_asm); (case k2q67 => k_asm); (case k3q67 => k_asm); (case k5q67 => k_asm); (case k6q67 => k_is); (case k7q67 => k_is); (case k8q67 => ktr_room); (case k9q67 => exact BindsTo.of_eq rfl); (case c5q67 => decide); (case kBq67 => exact locs rfl); (case c2q67 => exact rfl); (case c3q67 => exact rfl); (case c4q67 => exact rfl); k_whole; intro L' h' F' N' B' X' T'; (try dsimp only); (try k_fold))   | (refine' enterC ?k1q67 ?k2q67 ?k3q67 ?k5q67 ?kAq67 ?kFq67 ?kKq67 ?k6q67 ?k7q67 ?k8q67 ?k9q67 ?kBq67 ?kDq67 ?_ ?c2q67 ?c3q67 ?c4q67; (case kAq67 => exact rfl); (case kFq67 => exact rfl); (case kKq67 => assumption); (case k1q67 => k_asm); (case k2q67 => k_asm); (case k3q67 => k_asm); (case k5q67 => k_asm); (case k6q67 => k_is); (case k7q67 => k_is); (case k8q67 => ktr_room); (case k9q67 => exact BindsTo.of_eq rfl); (case kBq67 => exact rfl); (case kDq67 => decide +kernel); (case c2q67 => exact rfl); (case c3q67 => exact rfl); (case c4q67 => exact rfl); k_whole; intro L' h' tk' cells' F' N' Y' B' X' T'; k_cells Y'; (try simp only [List.cons_append, List.nil_append] at N'); (try dsimp only); (try k_fold))))
  k_steps
  · refine ret _ _ _ (Fr.keep (by assumption)) ⟨_, _, rfl, ?_, ?_⟩
    · rw [Int.fmod_eq_emod_of_nonneg _ (by decide)]; exact Int.emod_nonneg _ (by decide)
    · rw [Int.fmod_eq_emod_of_nonneg _ (by decide)]; exact Int.emod_lt_of_pos _ (by decide)
  · refine ret _ _ _ (Fr.keep (by assumption)) ⟨_, _, rfl, ?_, ?_⟩
    · rw [Int.fmod_eq_emod_of_nonneg _ (by decide)]; exact Int.emod_nonneg _ (by decide)
    · rw [Int.fmod_eq_emod_of_nonneg _ (by decide)]; exact Int.emod_lt_of_pos _ (by decide)
end TFY
-- F3
local macro_rules | `(tactic| walk_at "my_for") => `(tactic| (k_here; (rename Fr _ _ _ _ => lF'); (with_unfolding_all refine' For_invVF lF' ?k1 ?k2 ?_; (case k1 => exact rfl); (case k2 => exact rfl); k_whole)))
local macro_rules | `(tactic| walk_at "my_stop") => `(tactic| (k_here; (with_reducible show wpAny _ _ (pyIter (Value.ref _)) (fun it s₂ => LoopAtV _ _ _ _ _ _ _ _ _ it s₂) _ _); refine Stop.of ?_))
section TF3
set_option maxHeartbeats 8000000 in
theorem without_spec (w : World) (mean : ExcName → Option Value) (mg mb : PySem.Str → Option Value) (s : Shared) (l : Addr) (vs : List Value) (ns : List Int) (k : Int) (t : Tok)
    (hl : s.heap.IsList l vs.toArray) (hi : IntsAre vs ns) (hn : ns.length = 9) :
    Spec w mean mg mb 211 [.ref l, .int k t] 1 8 s (NewInts s.heap (ns.map fun x => if x = -k then 0 else x)) := by
  ((unfold Spec; k_fill))
  intro dp un gd cn cs a ccd cl outer A₀ base h₀ L m Q E B F X T hk hd hu ret
  ((refine wpAny_call ?_; k_dflt ((first   | (refine' enter ?k1q68 ?k2q68 ?k3q68 ?k5q68 ?kAq68 ?kFq68 ?kKq68 ?k6q68 ?k7q68 ?k8q68 ?k9q68 ?kBq68 ?_ ?c2q68 ?c3q68 ?c4q68 ?c5q68; (case kAq68 => exact rfl); (case kFq68 => exact rfl); (case kKq68 => assumption); (case k1q68 => k_asm); (case k2q68 => k_asm); (case k3q68 => k_asm); (case k5q68 => k_asm); (case k6q68 => k_is); (case k7q68 => k_is); (case k8q68 => ktr_room); (case k9q68 => exact BindsTo.of_eq rfl); (case c5q68 => decide); (case kBq68 => exact locs rfl); (case c2q68 => exact rfl); (case c3q68 => exact rfl); (case c4q68 => exact rfl); k_whole; intro L' h' F' N' B' X' T'; (try dsimp only); (try k_fold))   | (refine' enterC ?k1q68 ?k2q68 ?k3q68 ?k5q68 ?kAq68 ?kFq68 ?kKq68 ?k6q68 ?k7q68 ?k8q68 ?k9q68 ?kBq68 ?kDq68 ?_ ?c2q68 ?c3q68 ?c4q68; (case kAq68 => exact rfl); (case kFq68 => exact rfl); (case kKq68 => assumption); (case k1q68 => k_asm); (case k2q68 => k_asm); (case k3q68 => k_asm); (case k5q68 => k_asm); (case k6q68 => k_is); (case k7q68 => k_is); (case k8q68 => ktr_room); (case k9q68 => exact BindsTo.of_eq rfl); (case kBq68 => exact rfl); (case kDq68 => decide +kernel); (case c2q68 => exact rfl); (case c3q68 => exact rfl); (case c4q68 => exact rfl); k_whole; intro L' h' tk' cells' F' N' Y' B' X' T'; k_cells Y'; (try simp only [List.cons_append, List.nil_append] at N'); (try dsimp only); (try k_fold))))))
  k_steps
  exact ret _ _ _ (Fr.keep (by assumption)) (NewInts.intro (by assumption) (by k_mem) (by assumption))
set_option maxHeartbeats 8000000 in
theorem left_spec (w : World) (mean : ExcName → Option Value) (mg mb : PySem.Str → Option Value) (s : Shared) (l : Addr) (vs : List Value) (ns : List Int) (k : Int) (t : Tok)
    (hl : s.heap.IsList l vs.toArray) (hi : IntsAre vs ns) (hn : ns.length = 9) :
    Spec w mean mg mb 339 [.ref l, .int k t] 1 8 s (NewInts s.heap (ns.map fun x => if x + k = 0 then 0 else x)) := by
  ((unfold Spec; k_fill))
  intro dp un gd cn cs a ccd cl outer A₀ base h₀ L m Q E B F X T hk hd hu ret
  ((refine wpAny_call ?_; k_dflt ((first   | (refine' enter ?k1q69 ?k2q69 ?k3q69 ?k5q69 ?kAq69 ?kFq69 ?kKq69 ?k6q69 ?k7q69 ?k8q69 ?k9q69 ?kBq69 ?_ ?c2q69 ?c3q69 ?c4q69 ?c5q69; (case kAq69 => exact rfl); (case kFq69 => exact rfl); (case kKq69 => assumption); (case k1q69 => k_asm); (case k2q69 => k_asm); (case k3q69 => k_asm); (case k5q69 => k_asm); (case k6q69 => k_is); (case k7q69 => k_is); (case k8q69 => ktr_room); (case k9q69 => exact BindsTo.of_eq rfl); (case c5q69 => decide); (case kBq69 => exact locs rfl); (case c2q69 => exact rfl); (case c3q69 => exact rfl); (case c4q69 => exact rfl); k_whole; intro L' h' F' N' B' X' T'; (try dsimp only); (try k_fold))   | (refine' enterC ?k1q69 ?k2q69 ?k3q69 ?k5q69 ?kAq69 ?kFq69 ?kKq69 ?k6q69 ?k7q69 ?k8q69 ?k9q69 ?kBq69 ?kDq69 ?_ ?c2q69 ?c3q69 ?c4q69; (case kAq69 => exact rfl); (case kFq69 => exact rfl); (case kKq69 => assumption); (case k1q69 => k_asm); (case k2q69 => k_asm); (case k3q69 => k_asm); (case k5q69 => k_asm); (case k6q69 => k_is); (case k7q69 => k_is); (case k8q69 => ktr_room); (case k9q69 => exact BindsTo.of_eq rfl); (case kBq69 => exact rfl); (case kDq69 => decide +kernel); (case c2q69 => exact rfl); (case c3q69 => exact rfl); (case c4q69 => exact rfl); k_whole; intro L' h' tk' cells' F' N' Y' B' X' T'; k_cells Y'; (try simp only [List.cons_append, List.nil_append] at N'); (try dsimp only); (try k_fold))))))
  k_steps
  exact ret _ _ _ (Fr.keep (by assumption)) (NewInts.intro (by assumption) (by k_mem) (by assumption))
set_option maxHeartbeats 8000000 in
theorem entries_spec (w : World) (mean : ExcName → Option Value) (mg mb : PySem.Str → Option Value) (s : Shared) (l : Addr) (vs : List Value) (ns : List Int)
    (hl : s.heap.IsList l vs.toArray) (hi : IntsAre vs ns) (hn : ns.length = 9) :
    Spec w mean mg mb 334 [.ref l] 1 8 s (fun r h' => ∃ t, r = .int ((ns.filter fun x => x != 0).length : Nat) t) := by
  ((unfold Spec; k_fill))
  intro dp un gd cn cs a ccd cl outer A₀ base h₀ L m Q E B F X T hk hd hu ret
  ((refine wpAny_call ?_; k_dflt ((first   | (refine' enter ?k1q70 ?k2q70 ?k3q70 ?k5q70 ?kAq70 ?kFq70 ?kKq70 ?k6q70 ?k7q70 ?k8q70 ?k9q70 ?kBq70 ?_ ?c2q70 ?c3q70 ?c4q70 ?c5q70; (case kAq70 => exact rfl); (case kFq70 => exact rfl); (case kKq70 => assumption); (case k1q70 => k_asm); (case k2q70 => k_asm); (case k3q70 => k_asm); (case k5q70 => k_asm); (case k6q70 => k_is); (case k7q70 => k_is); (case k8q70 => ktr_room); (case k9q70 => exact BindsTo.of_eq rfl); (case c5q70 => decide); (case kBq70 => exact locs rfl); (case c2q70 => exact rfl); (case c3q70 => exact rfl); (case c4q70 => exact rfl); k_whole; intro L' h' F' N' B' X' T'; (try dsimp only); (try k_fold))   | (refine' enterC ?k1q70 ?k2q70 ?k3q70 ?k5q70 ?kAq70 ?kFq70 ?kKq70 ?k6q70 ?k7q70 ?k8q70 ?k9q70 ?kBq70 ?kDq70 ?_ ?c2q70 ?c3q70 ?c4q70; (case kAq70 => exact rfl); (case kFq70 => exact rfl); (case kKq70 => assumption); (case k1q70 => k_asm); (case k2q70 => k_asm); (case k3q70 => k_asm); (case k5q70 => k_asm); (case k6q70 => k_is); (case k7q70 => k_is); (case k8q70 => ktr_room); (case k9q70 => exact BindsTo.of_eq rfl); (case kBq70 => exact rfl); (case kDq70 => decide +kernel); (case c2q70 => exact rfl); (case c3q70 => exact rfl); (case c4q70 => exact rfl); k_whole; intro L' h' tk' cells' F' N' Y' B' X' T'; k_cells Y'; (try simp only [List.cons_append, List.nil_append] at N'); (try dsimp only); (try k_fold))))))
  k_steps
  (rename CarriedAll _ _ => hC)
  have hI := IntsAre.ofCarried hC
  have hlen := hI.length
  have hle := List.length_filter_le (fun x : Int => x != 0) ns
  refine PySem.Calls.call_len_list (by assumption) (by simp; omega) ?_
  exact ret _ _ _ (Fr.keep (by assumption)) ⟨_, by simp [hlen]; exact rfl⟩
end TF3
-- F2
section TF2
local macro_rules | `(tactic| walk_at "exec For Name Name cons nil") => `(tactic| walk_at "my_for")
local macro_rules | `(tactic| walk_at "exec For Name Call cons nil") => `(tactic| walk_at "my_for")
local macro_rules | `(tactic| walk_at "pyIter ref") => `(tactic| walk_at "my_stop")
local macro_rules | `(tactic| walk_at "call builtin:sorted") => `(tactic| (k_here; (with_reducible show wpAny _ _ (call (Value.builtin "sorted") [Value.ref _]) _ _ _); refine Stop.of ?_))
def IsBest (ns : List Int) (b : Int) : Prop := (0 < ns.getD 1 0 ∧ b = 0) ∨ (¬ 0 < ns.getD 1 0 ∧ ∃ ks, ks.Perm ((ns.foldl gC []).map (·.1)) ∧ Best (cnt ns) ks b)
theorem gC_len (c : List (Int × Int)) (n : Int) : (gC c n).length ≤ c.length + 1 := by
  unfold gC; split
  · exact kdfPut_len _ _ _
  · omega
theorem cnt_pos {ns : List Int} {k : Int} (h : 0 < cnt ns k) : 0 < k := by
  unfold cnt at h
  have h' : 0 < ns.countP fun n => decide (-1048576 < n ∧ n < 0 ∧ -n = k) := by omega
  obtain ⟨n, _, q⟩ := List.countP_pos_iff.mp h'
  have := of_decide_eq_true q
  omega
set_option maxHeartbeats 8000000 in
theorem default_spec (w : World) (mean : ExcName → Option Value) (mg mb : PySem.Str → Option Value) (s : Shared) (l : Addr) (vs : List Value) (ns : List Int)
    (hl : s.heap.IsList l vs.toArray) (hi : IntsAre vs ns) (hn : ns.length = 9) :
    Spec w mean mg mb 206 [.ref l] 1 8 s (fun r h' => ∃ b t, r = .int b t ∧ IsBest ns b) := by
  ((unfold Spec; k_fill))
  intro dp un gd cn cs a ccd cl outer A₀ base h₀ L m Q E B F X T hk hd hu ret
  ((refine wpAny_call ?_; k_dflt ((first   | (refine' enter ?k1q71 ?k2q71 ?k3q71 ?k5q71 ?kAq71 ?kFq71 ?kKq71 ?k6q71 ?k7q71 ?k8q71 ?k9q71 ?kBq71 ?_ ?c2q71 ?c3q71 ?c4q71 ?c5q71; (case kAq71 => exact rfl); (case kFq71 => exact rfl); (case kKq71 => assumption); (case k1q71 => k_asm); (case k2q71 => k_asm); (case k3q71 => k_asm); (case k5q71 => k_asm); (case k6q71 => k_is); (case k7q71 => k_is); (case k8q71 => ktr_room); (case k9q71 => exact BindsTo.of_eq rfl); (case c5q71 => decide); (case kBq71 => exact locs rfl); (case c2q71 => exact rfl); (case c3q71 => exact rfl); (case c4q71 => exact rfl); k_whole; intro L' h' F' N' B' X' T'; (try dsimp only); (try k_fold))   | (refine' enterC ?k1q71 ?k2q71 ?k3q71 ?k5q71 ?kAq71 ?kFq71 ?kKq71 ?k6q71 ?k7q71 ?k8q71 ?k9q71 ?kBq71 ?kDq71 ?_ ?c2q71 ?c3q71 ?c4q71; (case kAq71 => exact rfl); (case kFq71 => exact rfl); (case kKq71 => assumption); (case k1q71 => k_asm); (case k2q71 => k_asm); (case k3q71 => k_asm); (case k5q71 => k_asm); (case k6q71 => k_is); (case k7q71 => k_is); (case k8q71 => ktr_room); (case k9q71 => exact BindsTo.of_eq rfl); (case kBq71 => exact rfl); (case kDq71 => decide +kernel); (case c2q71 => exact rfl); (case c3q71 => exact rfl); (case c4q71 => exact rfl); k_whole; intro L' h' tk' cells' F' N' Y' B' X' T'; k_cells Y'; (try simp only [List.cons_append, List.nil_append] at N'); (try dsimp only); (try k_fold))))))
  k_steps
  · (rename 0 < List.getD _ _ _ => hpos)
    exact ret _ _ _ (Fr.keep (by assumption)) ⟨_, _, rfl, .inl ⟨hpos, rfl⟩⟩
  · (rename ¬ 0 < List.getD _ _ _ => hpos)
    unfold Stop
    (with_unfolding_all refine' kdf_iter (pre := []) (post := []) (c₀ := []) gC (by rfl) (by assumption) (by assumption) (by assumption) (by assumption) (by assumption) (by assumption) (by simp [hn]) ?turn ?done)
    case turn =>
      intro n t c o kvs b h tk own hmem hoff hd hf hb hB F N
      have hlen := gC_len c n
      (try simp only [List.nil_append, List.cons_append, List.append_nil] at N)
      (try k_fold)
      k_steps
      · ((refine InvEndN.intro (by assumption) (by assumption) ⟨⟨_, _, rfl, by assumption, ?hfq9, ?hsq9⟩, by (intro z h1; first | rfl | (simp [h1]; done) | (simp_all; done))⟩ (by rfl) (by (with_unfolding_all ((try simp only [List.nil_append, List.cons_append]); k_allIn))) (by (intro p hp; k_ownIn))))
        · rw [gC, if_pos ⟨by assumption, by assumption⟩]; assumption
        · omega
      · ((refine InvEndN.intro (by assumption) (by assumption) ⟨⟨_, _, rfl, by assumption, ?hfq10, ?hsq10⟩, by (intro z h1; first | rfl | (simp [h1]; done) | (simp_all; done))⟩ (by rfl) (by (with_unfolding_all ((try simp only [List.nil_append, List.cons_append]); k_allIn))) (by (intro p hp; k_ownIn))))
        · rw [gC, if_neg (by omega)]; assumption
        · omega
      · ((refine InvEndN.intro (by assumption) (by assumption) ⟨⟨_, _, rfl, by assumption, ?hfq11, ?hsq11⟩, by (intro z h1; first | rfl | (simp [h1]; done) | (simp_all; done))⟩ (by rfl) (by (with_unfolding_all ((try simp only [List.nil_append, List.cons_append]); k_allIn))) (by (intro p hp; k_ownIn))))
        · rw [gC, if_neg (by omega)]; assumption
        · omega
    case done =>
      intro q o kvs h tk hd hf hc hB F N
      have hlk := fun k => look_fold ns [] k
      have hhs := fun k => has_fold ns [] k
      generalize hcd : ns.foldl gC [] = c at *
      have hcl : c.length < 64 := by simp at hc; omega
      (try simp only [List.nil_append, List.cons_append, List.append_nil] at N)
      (try k_fold)
      k_steps
      unfold Stop
      k_dflt (refine sorted_dict (c := c) (by rfl) (by k_asm) (by k_asm) (by k_tabat) hcl ?_)
      intro B2 h2 tk2 vs2 ks e2 F2 N2 l2 hI2 hperm hsort
      have hks : ∀ k ∈ ks, kdfHas c k = true := fun k hk => has_key.mp (hperm.mem_iff.mp hk)
      have hkp : ∀ k ∈ ks, 0 < k := fun k hk => cnt_pos (by have q := hks k hk; rw [hhs k] at q; simpa [kdfHas] using q)
      k_steps
      unfold Stop
      (with_unfolding_all refine' iter_one (y := PySem.Str.ofString "best") (Best (cnt ns)) (by rfl) (by k_mem) hI2 F2 N2 ⟨_, _, rfl, .inl ⟨rfl, rfl⟩⟩ ?turn2 ?done2)
      case turn2 =>
        intro pre n post t a2 ta h3 tk3 own hsp hoff hP F3 N3
        have hmn : n ∈ ks := by rw [hsp]; simp
        have hhn : kdfHas c n = true := hks n hmn
        have hle : ∀ k ∈ pre, k ≤ n := by
          rw [hsp] at hsort
          intro k hk
          exact (List.pairwise_append.mp hsort).2.2 k hk n (by simp)
        have e1 := hlk n
        have e2 := hlk a2
        rw [look_nil] at e1 e2
        (try simp only [List.nil_append, List.cons_append, List.append_nil] at N3)
        (try k_fold)
        rcases (show (pre = [] ∧ a2 = 0) ∨ (a2 ∈ pre ∧ kdfHas c a2 = true ∧ ¬ a2 = 0) by
          rcases hP with q | q
          · exact .inl q
          · have : a2 ∈ ks := by rw [hsp]; simp [q.1]
            have := hkp a2 this
            exact .inr ⟨q.1, hks a2 (by assumption), by omega⟩) with ⟨q1, q2⟩ | ⟨q1, hha, q2⟩
        · have hnw : Best (cnt ns) (pre ++ [n]) n := hP.take hle (fun _ => q1) (.inl q2)
          k_steps
          exact absurd q2 (by assumption)
        · k_steps
          · ((refine InvEndN.intro (by assumption) (by assumption) ⟨rfl, ⟨_, _, rfl, ?_⟩, by k_same2⟩ (by rfl) (by (with_unfolding_all ((try simp only [List.nil_append, List.cons_append]); k_allIn))) (by (intro p hp; k_ownIn))))
            exact hP.take hle (fun e => absurd e q2) (.inr (by omega))
          · ((refine InvEndN.intro (by assumption) (by assumption) ⟨rfl, ⟨_, _, rfl, ?_⟩, by k_same2⟩ (by rfl) (by (with_unfolding_all ((try simp only [List.nil_append, List.cons_append]); k_allIn))) (by (intro p hp; k_ownIn))))
            exact hP.keep hle q2 (by omega)
      case done2 =>
        intro u a2 t h3 tk3 hP F3 N3
        k_steps
        exact ret _ _ _ (Fr.keep (by assumption)) ⟨_, _, rfl, .inr ⟨hpos, ks, by rw [hcd]; exact hperm, hP⟩⟩
end TF2
-- F4
local macro_rules | `(tactic| walk_at "my_use") => `(tactic| ((case F => k_asm); (case N => k_asm); (case B => k_asm); (case X => k_asm); (case T => k_asm); (case hk => first | exact rfl | assumption); (case hd => ktr_room); (case hu => ktr_units)))
section TF4
local macro_rules | `(tactic| walk_at "call ref") => `(tactic| (k_here; (with_reducible show wpAny _ _ (call (Value.ref 334) _ _) _ _ _); k_dflt (refine' Spec.use (entries_spec _ _ _ _ _ _ _ _ ?hl ?hi ?hn) ?F ?N ?B ?X ?T ?hk ?hd ?hu ?_; walk_at "my_use"; (case hl => first | is_list | exact isList_news (by k_asm) (by k_mem)); (case hi => first | assumption | l_ints); (case hn => first | assumption | simp [*])); k_whole; rintro r' h' tk' F' N' S' ⟨t', e'⟩; subst e'; (try dsimp only); (try k_fold)))
local macro_rules | `(tactic| walk_at "call ref") => `(tactic| (k_here; (with_reducible show wpAny _ _ (call (Value.ref 339) _ _) _ _ _); k_dflt (refine' Spec.use (left_spec _ _ _ _ _ _ _ _ _ _ ?hl ?hi ?hn) ?F ?N ?B ?X ?T ?hk ?hd ?hu ?_; walk_at "my_use"; (case hl => first | is_list | exact isList_news (by k_asm) (by k_mem)); (case hi => first | assumption | l_ints); (case hn => first | assumption | simp [*])); k_whole; intro r' h' tk' F' N' S' P'; obtain ⟨l', ys', n', e', N'', ne', hI'⟩ := P'.news (by assumption) (by assumption) S'; subst e'; (try simp only [AllNe, and_true] at ne'); clear N' P'; (try dsimp only); (try k_fold)))
local macro_rules | `(tactic| walk_at "exec For Name Tuple cons nil") => `(tactic| walk_at "my_for")
local macro_rules | `(tactic| walk_at "pyIter ref") => `(tactic| walk_at "my_stop")
def entries (ns : List Int) : Int := ((ns.filter fun x => x != 0).length : Nat)
def left (ns : List Int) (k : Int) : List Int := ns.map fun x => if x + k = 0 then 0 else x
def stepB (ns : List Int) (p : Int × Int) (k : Int) : Int × Int := if entries (left ns k) < p.2 then (k, entries (left ns k)) else p
def lawBest (ns : List Int) : Int := if 0 < ns.getD 1 0 then 0 else (([1, 2, 3, 4] : List Int).foldl (stepB ns) (0, entries ns)).1
set_option maxHeartbeats 8000000 in
theorem best_spec (w : World) (mean : ExcName → Option Value) (mg mb : PySem.Str → Option Value) (s : Shared) (l : Addr) (vs : List Value) (ns : List Int)
    (hl : s.heap.IsList l vs.toArray) (hi : IntsAre vs ns) (hn : ns.length = 9) :
    Spec w mean mg mb 346 [.ref l] 3 24 s (fun r _ => ∃ t, r = .int (lawBest ns) t) := by
  ((unfold Spec; k_fill))
  intro dp un gd cn cs a ccd cl outer A₀ base h₀ L m Q E B F X T hk hd hu ret
  ((refine wpAny_call ?_; k_dflt ((first   | (refine' enter ?k1q72 ?k2q72 ?k3q72 ?k5q72 ?kAq72 ?kFq72 ?kKq72 ?k6q72 ?k7q72 ?k8q72 ?k9q72 ?kBq72 ?_ ?c2q72 ?c3q72 ?c4q72 ?c5q72; (case kAq72 => exact rfl); (case kFq72 => exact rfl); (case kKq72 => assumption); (case k1q72 => k_asm); (case k2q72 => k_asm); (case k3q72 => k_asm); (case k5q72 => k_asm); (case k6q72 => k_is); (case k7q72 => k_is); (case k8q72 => ktr_room); (case k9q72 => exact BindsTo.of_eq rfl); (case c5q72 => decide); (case kBq72 => exact locs rfl); (case c2q72 => exact rfl); (case c3q72 => exact rfl); (case c4q72 => exact rfl); k_whole; intro L' h' F' N' B' X' T'; (try dsimp only); (try k_fold))   | (refine' enterC ?k1q72 ?k2q72 ?k3q72 ?k5q72 ?kAq72 ?kFq72 ?kKq72 ?k6q72 ?k7q72 ?k8q72 ?k9q72 ?kBq72 ?kDq72 ?_ ?c2q72 ?c3q72 ?c4q72; (case kAq72 => exact rfl); (case kFq72 => exact rfl); (case kKq72 => assumption); (case k1q72 => k_asm); (case k2q72 => k_asm); (case k3q72 => k_asm); (case k5q72 => k_asm); (case k6q72 => k_is); (case k7q72 => k_is); (case k8q72 => ktr_room); (case k9q72 => exact BindsTo.of_eq rfl); (case kBq72 => exact rfl); (case kDq72 => decide +kernel); (case c2q72 => exact rfl); (case c3q72 => exact rfl); (case c4q72 => exact rfl); k_whole; intro L' h' tk' cells' F' N' Y' B' X' T'; k_cells Y'; (try simp only [List.cons_append, List.nil_append] at N'); (try dsimp only); (try k_fold))))))
  k_steps
  · (rename 0 < List.getD _ _ _ => hpos)
    have e : lawBest ns = 0 := if_pos hpos
    exact ret _ _ _ (Fr.keep (by assumption)) ⟨_, by rw [e]⟩
  · (rename ¬ 0 < List.getD _ _ _ => hpos)
    unfold Stop
    (with_unfolding_all refine' iter_tup2 (y := PySem.Str.ofString "best") (y' := PySem.Str.ofString "fewest") (ks := [1, 2, 3, 4]) (fun pre b f => pre.foldl (stepB ns) (0, entries ns) = (b, f)) ?hI (by rfl) (by assumption) (by assumption) ?hne ⟨_, _, _, _, rfl, rfl, rfl⟩ ?turn ?done)
    case hI => exact .cons _ _ (.cons _ _ (.cons _ _ (.cons _ _ .nil)))
    case hne => (((simp only [AllNe, and_true]); (repeat' (first | (refine And.intro ?_ ?_) | k_ne))))
    case turn =>
      intro pre k post t b f tb tf h tk own hsp hP hoff F N
      have hL : (left ns k).length = 9 := by simp [left, hn]
      (try simp only [List.nil_append, List.cons_append, List.append_nil] at N)
      (try k_fold)
      k_steps
      · ((refine InvEndN.intro (by assumption) (by assumption) ⟨rfl, ⟨_, _, _, _, rfl, rfl, ?_⟩, by (intro z h1 h2 h3; first | rfl | (simp [h1, h2, h3]; done) | (simp_all; done))⟩ (by rfl) (by (with_unfolding_all ((try simp only [List.nil_append, List.cons_append]); k_allIn))) (by (intro p hp; k_ownIn))))
        rw [List.foldl_append, hP]
        show stepB ns (b, f) k = _
        exact if_pos (by assumption)
      · ((refine InvEndN.intro (by assumption) (by assumption) ⟨rfl, ⟨_, _, _, _, rfl, rfl, ?_⟩, by (intro z h1 h2 h3; first | rfl | (simp [h1, h2, h3]; done) | (simp_all; done))⟩ (by rfl) (by (with_unfolding_all ((try simp only [List.nil_append, List.cons_append]); k_allIn))) (by (intro p hp; k_ownIn))))
        rw [List.foldl_append, hP]
        show stepB ns (b, f) k = _
        exact if_neg (by assumption)
    case done =>
      intro u b f tb tf h tk hP F N
      (try k_fold)
      k_steps
      have e : lawBest ns = b := (if_neg hpos).trans (congrArg Prod.fst hP)
      exact ret _ _ _ (Fr.keep (by assumption)) ⟨_, by rw [e]⟩
end TF4
-- F5
section TF5
local macro_rules | `(tactic| walk_at "exec For Name Call cons nil") => `(tactic| walk_at "my_for")
local macro_rules | `(tactic| walk_at "pyIter ref") => `(tactic| walk_at "my_stop")
local macro_rules | `(tactic| walk_at "call ref") => `(tactic| (k_here; (with_reducible show wpAny _ _ (call (Value.ref 322) _ _) _ _ _); k_dflt (refine' Spec.use (law_at_spec _ _ _ _ _ _ _ _ _ _ _ ?hl ?hi ?hn ?hk0 ?hk1) ?F ?N ?B ?X ?T ?hk ?hd ?hu ?_; walk_at "my_use"; (case hl => is_list); (case hi => first | assumption | l_ints); (case hn => assumption); (case hk0 => omega); (case hk1 => omega)); k_whole; rintro r' h' tk' F' N' S' ⟨x', t', e', x0', x1'⟩; subst e'; (try dsimp only); (try k_fold)))
theorem cells_snoc {i : Nat} {xs : List Int} {v : Int} (h : xs.length = i ∧ ∀ x ∈ xs, Cell x) (hv : Cell v) : (xs ++ [v]).length = i + 1 ∧ ∀ x ∈ xs ++ [v], Cell x := by
  refine ⟨by simp [h.1], fun x hx => ?_⟩
  rcases List.mem_append.mp hx with hx | hx
  · exact h.2 x hx
  · rw [List.mem_singleton.mp hx]; exact hv
set_option maxHeartbeats 8000000 in
theorem row_spec (w : World) (mean : ExcName → Option Value) (mg mb : PySem.Str → Option Value) (s : Shared) (l : Addr) (vs : List Value) (ns : List Int) (k : Int) (t : Tok)
    (hl : s.heap.IsList l vs.toArray) (hi : IntsAre vs ns) (hn : ns.length ≤ 63) (hk0 : 0 ≤ k) (hk1 : k ≤ 9) :
    Spec w mean mg mb 329 [.ref l, .int k t] 3 24 s (fun r h' => ∃ xs : List Int, xs.length = 9 ∧ (∀ x ∈ xs, Cell x) ∧ NewInts s.heap xs r h') := by
  ((unfold Spec; k_fill))
  intro dp un gd cn cs a ccd cl outer A₀ base h₀ L m Q E B F X T hk hd hu ret
  ((refine wpAny_call ?_; k_dflt ((first   | (refine' enter ?k1q73 ?k2q73 ?k3q73 ?k5q73 ?kAq73 ?kFq73 ?kKq73 ?k6q73 ?k7q73 ?k8q73 ?k9q73 ?kBq73 ?_ ?c2q73 ?c3q73 ?c4q73 ?c5q73; (case kAq73 => exact rfl); (case kFq73 => exact rfl); (case kKq73 => assumption); (case k1q73 => k_asm); (case k2q73 => k_asm); (case k3q73 => k_asm); (case k5q73 => k_asm); (case k6q73 => k_is); (case k7q73 => k_is); (case k8q73 => ktr_room); (case k9q73 => exact BindsTo.of_eq rfl); (case c5q73 => decide); (case kBq73 => exact locs rfl); (case c2q73 => exact rfl); (case c3q73 => exact rfl); (case c4q73 => exact rfl); k_whole; intro L' h' F' N' B' X' T'; (try dsimp only); (try k_fold))   | (refine' enterC ?k1q73 ?k2q73 ?k3q73 ?k5q73 ?kAq73 ?kFq73 ?kKq73 ?k6q73 ?k7q73 ?k8q73 ?k9q73 ?kBq73 ?kDq73 ?_ ?c2q73 ?c3q73 ?c4q73; (case kAq73 => exact rfl); (case kFq73 => exact rfl); (case kKq73 => assumption); (case k1q73 => k_asm); (case k2q73 => k_asm); (case k3q73 => k_asm); (case k5q73 => k_asm); (case k6q73 => k_is); (case k7q73 => k_is); (case k8q73 => ktr_room); (case k9q73 => exact BindsTo.of_eq rfl); (case kBq73 => exact rfl); (case kDq73 => decide +kernel); (case c2q73 => exact rfl); (case c3q73 => exact rfl); (case c4q73 => exact rfl); k_whole; intro L' h' tk' cells' F' N' Y' B' X' T'; k_cells Y'; (try simp only [List.cons_append, List.nil_append] at N'); (try dsimp only); (try k_fold))))))
  k_steps
  unfold Stop
  (with_unfolding_all refine' iter_fill (n := 9) (y := PySem.Str.ofString "kind") (y' := PySem.Str.ofString "deed") (vs₀ := []) (news := []) (fun i xs => xs.length = i ∧ ∀ x ∈ xs, Cell x) (by rfl) (by assumption) (by rfl) (by rfl) (by assumption) (by assumption) ⟨[], .nil, rfl, by simp⟩ ?turn ?done)
  case turn =>
    intro i t us xs e q q' h tk own hi9 hI hP hoff F N
    (try simp only [List.nil_append, List.cons_append, List.append_nil] at N)
    (try k_fold)
    k_steps
    all_goals (((refine fill_end (news := []) (by assumption) (by assumption) (by k_mem) (by simp) (by (intro p hp; k_ownIn)) (by assumption) (by (intro z h1 h2 h3; first | rfl | (simp [h1, h2, h3]; done) | (simp_all; done))) ?_)))
    all_goals exact cells_snoc hP (by first | exact cell_menu (by assumption) (by assumption) | (unfold Cell; decide))
  case done =>
    intro q q' q'' us xs e h tk hI hP F N
    (try k_fold)
    k_steps
    exact ret _ _ _ (Fr.keep (by assumption)) ⟨xs, hP.1, hP.2, NewInts.intro (by assumption) (by k_mem) hI⟩
end TF5
-- FT
section TFT
theorem instKeeps {h h' : Heap} {x C : Addr} {ox : Obj} {od : Option Obj} (I : InstAt h x ox C od) (st : ∀ b o, h.get? b = some o → h'.get? b = some o) : InstAt h' x ox C od := by
  refine ⟨st _ _ I.at_, I.cls, I.no, ?_⟩
  have q := I.dict
  split at q
  · exact st _ _ q
  · trivial
  · exact q.elim
theorem listKeeps {h h' : Heap} {l : Addr} {its : Array Value} (I : h.IsList l its) (st : ∀ b o, h.get? b = some o → h'.get? b = some o) : h'.IsList l its := I.at fun o e => st l o e
/-- a table object: T with its dict's entries; the row r and the default b that stand at state k -/
structure Tab (h : Heap) (T d : Addr) (es : List DictEntry) (n : Nat) (R D : Addr) (k : Int) (r : Addr) (b : Int) : Prop where
  inst : InstAt h T (instObj 197 d) 197 (some (dictOf es n))
  gRows : getL (PySem.Str.ofString "rows") es = some (some (.ref R))
  gDefs : getL (PySem.Str.ofString "defaults") es = some (some (.ref D))
  gCount : ∃ t, getL (PySem.Str.ofString "terminal_count") es = some (some (.int 9 t))
  n1 : getL (PySem.Str.ofString "explicit") es = some none
  n2 : getL (PySem.Str.ofString "default") es = some none
  n3 : getL (PySem.Str.ofString "action") es = some none
  n4 : getL (PySem.Str.ofString "expected") es = some none
  n5 : getL (PySem.Str.ofString "is_consistent") es = some none
  pos : 0 ≤ k ∧ k < 8
  row : ∃ its : Array Value, h.IsList R its ∧ its[k.toNat]? = some (.ref r)
  dflt : ∃ (its : Array Value) (tb : Tok), h.IsList D its ∧ its[k.toNat]? = some (.int b tb)
theorem Tab.keeps {h h' : Heap} {T d : Addr} {es : List DictEntry} {n : Nat} {R D : Addr} {k : Int} {r : Addr} {b : Int} (t : Tab h T d es n R D k r b) (st : ∀ b o, h.get? b = some o → h'.get? b = some o) : Tab h' T d es n R D k r b :=
  ⟨instKeeps t.inst st, t.gRows, t.gDefs, t.gCount, t.n1, t.n2, t.n3, t.n4, t.n5, t.pos, let ⟨its, a, e⟩ := t.row; ⟨its, listKeeps a st, e⟩, let ⟨its, tb, a, e⟩ := t.dflt; ⟨its, tb, listKeeps a st, e⟩⟩
theorem item_of {prog : Program} {w : World} {A : Around} {E : Value → Shared → Prop} {s : Shared} {value slice : Expr} {l : Addr} {its : Array Value} {k : Int} {u : Tok} {v : Value} {Q : Value → Shared → Prop}
    (hl : s.heap.IsList l its) (h0 : 0 ≤ k) (hhi : k < 2 ^ 63) (hx : its[k.toNat]? = some v) (h : Q v s)
    (hs : subscripted slice false (.ref l) (.int k u) = operate [.ref l, .int k u] (getItem (.ref l) (.int k u)) := by with_unfolding_all rfl) :
    wpAny (model prog w) A (subscriptTail value slice (.ref l) (.int k u)) Q E s :=
  tail_any hl.typeIs slot_list_getitem.lookup (wpAny_getItem_list hl h0 hhi hx h) hs
theorem item_int {prog : Program} {w : World} {A : Around} {E : Value → Shared → Prop} {s : Shared} {value slice : Expr} {l : Addr} {vs : List Value} {ns : List Int} {k : Int} {u : Tok} {Q : Value → Shared → Prop}
    (hl : s.heap.IsList l vs.toArray) (hi : IntsAre vs ns) (h0 : 0 ≤ k) (hk : k < ns.length) (hhi : k < 2 ^ 63) (h : ∀ t, Q (.int (ns.getD k.toNat 0) t) s)
    (hs : subscripted slice false (.ref l) (.int k u) = operate [.ref l, .int k u] (getItem (.ref l) (.int k u)) := by with_unfolding_all rfl) :
    wpAny (model prog w) A (subscriptTail value slice (.ref l) (.int k u)) Q E s := by
  have hlt : k.toNat < vs.length := by rw [hi.length]; omega
  obtain ⟨n, t, hn, hv⟩ := ints_at hi (i := k.toNat) (v := vs[k.toNat]) (by simp [hlt])
  refine item_of (v := .int n t) hl h0 hhi (by rw [← hv]; simp [hlt]) ?_ hs
  have e : ns.getD k.toNat 0 = n := by rw [List.getD_eq_getElem?_getD, hn]; rfl
  rw [← e]; exact h t
/-- what the dict of a new table tells -/
structure TabEs (es : List DictEntry) (R D : Addr) : Prop where
  gRows : getL (PySem.Str.ofString "rows") es = some (some (.ref R))
  gDefs : getL (PySem.Str.ofString "defaults") es = some (some (.ref D))
  gCount : ∃ t, getL (PySem.Str.ofString "terminal_count") es = some (some (.int 9 t))
  n1 : getL (PySem.Str.ofString "explicit") es = some none
  n2 : getL (PySem.Str.ofString "default") es = some none
  n3 : getL (PySem.Str.ofString "action") es = some none
  n4 : getL (PySem.Str.ofString "expected") es = some none
  n5 : getL (PySem.Str.ofString "is_consistent") es = some none
  n6 : getL (PySem.Str.ofString "state_count") es = some none
/-- a new object comes back -/
def NewObj (C : Addr) (P : List DictEntry → Prop) (h : Heap) (r : Value) (h' : Heap) : Prop :=
  ∃ T d es n, r = .ref T ∧ h'.get? T = some (instObj C d) ∧ h'.get? d = some (dictOf es n) ∧ h.get? T = none ∧ h.get? d = none ∧ T ≠ d ∧ P es
theorem NewObj.intro {C : Addr} {P : List DictEntry → Prop} {h h' : Heap} {L T d : Addr} {es : List DictEntry} {n : Nat} {news : List (Addr × Obj)} (N : News h L h' news) (h1 : (T, instObj C d) ∈ news) (h2 : (d, dictOf es n) ∈ news) (ne : @LT.lt Nat _ d T) (e : P es) : NewObj C P h (.ref T) h' :=
  ⟨T, d, es, n, rfl, (N _ h1).1, (N _ h2).1, (N _ h1).2.2, (N _ h2).2.2, Nat.ne_of_gt ne, e⟩
theorem NewObj.news {C : Addr} {P : List DictEntry → Prop} {h h₀ h' : Heap} {L : Addr} {m : PySem.Str → Option Value} {news : List (Addr × Obj)} {r : Value} (p : NewObj C P h r h') (F : Fr h₀ L h m) (N : News h₀ L h news) (st : h.StaysIn h') :
    ∃ T d es n, r = .ref T ∧ News h₀ L h' ((T, instObj C d) :: (d, dictOf es n) :: news) ∧ AllNe T news ∧ AllNe d news ∧ ¬ @Eq Nat T d ∧ P es := by
  obtain ⟨T, d, es, n, e, hT, hd, fT, fd, ne, te⟩ := p
  obtain ⟨oL, _, _, hL, _⟩ := F.ns
  have fresh : ∀ a, h.get? a = none → a ≠ L ∧ h₀.get? a = none := fun a fa => by
    refine ⟨fun q => by (rw [q, hL] at fa; cases fa), ?_⟩
    cases q : h₀.get? a with
    | none => rfl
    | some o => rw [F.keep _ _ q] at fa; cases fa
  refine ⟨T, d, es, n, e, fun p hp => ?_, allNe_of fun p hp q => ?_, allNe_of fun p hp q => ?_, ne, te⟩
  · rcases List.mem_cons.mp hp with rfl | hp
    · exact ⟨hT, fresh _ fT⟩
    · rcases List.mem_cons.mp hp with rfl | hp
      · exact ⟨hd, fresh _ fd⟩
      · exact ⟨st _ _ (N p hp).1, (N p hp).2⟩
  · rw [← q, (N p hp).1] at fT; cases fT
  · rw [← q, (N p hp).1] at fd; cases fd
theorem getE {x : PySem.Str} {es : List DictEntry} {k : Int} {t : Tok} (e : getL x es = some (some (.int k t))) : ∃ t, getL x es = some (some (.int k t)) := ⟨t, e⟩
/-- a made table as the specs ask for it -/
theorem tab_of {h₀ h : Heap} {L T d R D : Addr} {es : List DictEntry} {n nR nD : Nat} {news : List (Addr × Obj)} {rs ds : Array Value} {k b : Int} {r : Addr} {tb : Tok} (N : News h₀ L h news) (e : TabEs es R D) (h1 : (T, instObj 197 d) ∈ news) (h2 : (d, dictOf es n) ∈ news) (h3 : (R, listOf rs nR) ∈ news) (h4 : (D, listOf ds nD) ∈ news)
    (hk : 0 ≤ k ∧ k < 8) (hr : rs[k.toNat]? = some (.ref r)) (hb : ds[k.toNat]? = some (.int b tb)) : Tab h T d es n R D k r b :=
  ⟨InstAt.of_news N h1 h2, e.gRows, e.gDefs, e.gCount, e.n1, e.n2, e.n3, e.n4, e.n5, hk, ⟨rs, ⟨_, (N _ h3).1, rfl, nR, rfl⟩, hr⟩, ⟨ds, tb, ⟨_, (N _ h4).1, rfl, nD, rfl⟩, hb⟩⟩
end TFT
-- F6
local macro_rules | `(tactic| walk_at "my_a5") => `(tactic| (k_here; (with_reducible show wpAny _ _ (subscriptTail _ _ (Value.ref _) (Value.int _ _)) _ _ _); k_dflt (refine' item_of ?k1 ?k2 ?k3 ?k4 ?_ ?k6; (case k1 => exact listKeeps (by assumption) (Fr.keep (by k_asm))); (case k4 => assumption); (case k2 => omega); (case k3 => omega); (case k6 => with_unfolding_all rfl); k_whole)))
local macro_rules | `(tactic| walk_at "my_a6") => `(tactic| (k_here; (with_reducible show wpAny _ _ (subscriptTail _ _ (Value.ref _) (Value.int _ _)) _ _ _); k_dflt (refine' item_int ?k1 ?ki ?k2 ?kk ?k3 ?_ ?k6; (case k1 => exact listKeeps (by assumption) (Fr.keep (by k_asm))); (case ki => assumption); (case k2 => omega); (case kk => omega); (case k3 => omega); (case k6 => with_unfolding_all rfl); k_whole); intro _))
section TF6
local macro_rules | `(tactic| k_inst) => `(tactic| exact instKeeps (by assumption) (Fr.keep (by k_asm)))
local macro_rules | `(tactic| k_get) => `(tactic| assumption)
local macro_rules | `(tactic| walk_at "subscriptTail") => `(tactic| walk_at "my_a5")
local macro_rules | `(tactic| walk_at "subscriptTail") => `(tactic| walk_at "my_a6")
set_option maxHeartbeats 8000000 in
theorem explicit_spec (w : World) (mean : ExcName → Option Value) (mg mb : PySem.Str → Option Value) (s : Shared) (Ta d : Addr) (es : List DictEntry) (n : Nat) (R D : Addr) (k : Int) (r : Addr) (b : Int) (vs : List Value) (ns : List Int) (j : Int) (t1 t2 : Tok)
    (tab : Tab s.heap Ta d es n R D k r b) (hl : s.heap.IsList r vs.toArray) (hi : IntsAre vs ns) (hn : ns.length = 9) (hj0 : 0 ≤ j) (hj1 : j < 9) :
    Spec w mean mg mb 187 [.ref Ta, .int k t1, .int j t2] 1 8 s (fun r _ => ∃ t, r = .int (ns.getD j.toNat 0) t) := by
  have hI := tab.inst
  have g1 := tab.gRows
  have hp := tab.pos
  obtain ⟨its, hR, hr⟩ := tab.row
  ((unfold Spec; k_fill))
  intro dp un gd cn cs a ccd cl outer A₀ base h₀ L m Q E B F X T hk hd hu ret
  ((refine wpAny_call ?_; k_dflt ((first   | (refine' enter ?k1q75 ?k2q75 ?k3q75 ?k5q75 ?kAq75 ?kFq75 ?kKq75 ?k6q75 ?k7q75 ?k8q75 ?k9q75 ?kBq75 ?_ ?c2q75 ?c3q75 ?c4q75 ?c5q75; (case kAq75 => exact rfl); (case kFq75 => exact rfl); (case kKq75 => assumption); (case k1q75 => k_asm); (case k2q75 => k_asm); (case k3q75 => k_asm); (case k5q75 => k_asm); (case k6q75 => k_is); (case k7q75 => k_is); (case k8q75 => ktr_room); (case k9q75 => exact BindsTo.of_eq rfl); (case c5q75 => decide); (case kBq75 => exact locs rfl); (case c2q75 => exact rfl); (case c3q75 => exact rfl); (case c4q75 => exact rfl); k_whole; intro L' h' F' N' B' X' T'; (try dsimp only); (try k_fold))   | (refine' enterC ?k1q75 ?k2q75 ?k3q75 ?k5q75 ?kAq75 ?kFq75 ?kKq75 ?k6q75 ?k7q75 ?k8q75 ?k9q75 ?kBq75 ?kDq75 ?_ ?c2q75 ?c3q75 ?c4q75; (case kAq75 => exact rfl); (case kFq75 => exact rfl); (case kKq75 => assumption); (case k1q75 => k_asm); (case k2q75 => k_asm); (case k3q75 => k_asm); (case k5q75 => k_asm); (case k6q75 => k_is); (case k7q75 => k_is); (case k8q75 => ktr_room); (case k9q75 => exact BindsTo.of_eq rfl); (case kBq75 => exact rfl); (case kDq75 => decide +kernel); (case c2q75 => exact rfl); (case c3q75 => exact rfl); (case c4q75 => exact rfl); k_whole; intro L' h' tk' cells' F' N' Y' B' X' T'; k_cells Y'; (try simp only [List.cons_append, List.nil_append] at N'); (try dsimp only); (try k_fold))))))
  k_steps
  exact ret _ _ _ (Fr.keep (by assumption)) ⟨_, rfl⟩
set_option maxHeartbeats 8000000 in
theorem dflt_spec (w : World) (mean : ExcName → Option Value) (mg mb : PySem.Str → Option Value) (s : Shared) (Ta d : Addr) (es : List DictEntry) (n : Nat) (R D : Addr) (k : Int) (r : Addr) (b : Int) (t1 : Tok)
    (tab : Tab s.heap Ta d es n R D k r b) :
    Spec w mean mg mb 124 [.ref Ta, .int k t1] 1 8 s (fun r _ => ∃ t, r = .int b t) := by
  have hI := tab.inst
  have g1 := tab.gDefs
  have hp := tab.pos
  obtain ⟨its, tb, hR, hr⟩ := tab.dflt
  ((unfold Spec; k_fill))
  intro dp un gd cn cs a ccd cl outer A₀ base h₀ L m Q E B F X T hk hd hu ret
  ((refine wpAny_call ?_; k_dflt ((first   | (refine' enter ?k1q76 ?k2q76 ?k3q76 ?k5q76 ?kAq76 ?kFq76 ?kKq76 ?k6q76 ?k7q76 ?k8q76 ?k9q76 ?kBq76 ?_ ?c2q76 ?c3q76 ?c4q76 ?c5q76; (case kAq76 => exact rfl); (case kFq76 => exact rfl); (case kKq76 => assumption); (case k1q76 => k_asm); (case k2q76 => k_asm); (case k3q76 => k_asm); (case k5q76 => k_asm); (case k6q76 => k_is); (case k7q76 => k_is); (case k8q76 => ktr_room); (case k9q76 => exact BindsTo.of_eq rfl); (case c5q76 => decide); (case kBq76 => exact locs rfl); (case c2q76 => exact rfl); (case c3q76 => exact rfl); (case c4q76 => exact rfl); k_whole; intro L' h' F' N' B' X' T'; (try dsimp only); (try k_fold))   | (refine' enterC ?k1q76 ?k2q76 ?k3q76 ?k5q76 ?kAq76 ?kFq76 ?kKq76 ?k6q76 ?k7q76 ?k8q76 ?k9q76 ?kBq76 ?kDq76 ?_ ?c2q76 ?c3q76 ?c4q76; (case kAq76 => exact rfl); (case kFq76 => exact rfl); (case kKq76 => assumption); (case k1q76 => k_asm); (case k2q76 => k_asm); (case k3q76 => k_asm); (case k5q76 => k_asm); (case k6q76 => k_is); (case k7q76 => k_is); (case k8q76 => ktr_room); (case k9q76 => exact BindsTo.of_eq rfl); (case kBq76 => exact rfl); (case kDq76 => decide +kernel); (case c2q76 => exact rfl); (case c3q76 => exact rfl); (case c4q76 => exact rfl); k_whole; intro L' h' tk' cells' F' N' Y' B' X' T'; k_cells Y'; (try simp only [List.cons_append, List.nil_append] at N'); (try dsimp only); (try k_fold))))))
  k_steps
  exact ret _ _ _ (Fr.keep (by assumption)) ⟨_, rfl⟩
end TF6
-- F7
local macro_rules | `(tactic| walk_at "my_a3") => `(tactic| (k_here; (with_reducible show wpAny _ _ (call (Value.ref 187) _ _) _ _ _); k_dflt (refine' Spec.use (explicit_spec _ _ _ _ _ _ _ _ _ _ _ _ _ _ _ _ _ _ _ ?tab ?hl ?hi ?hn ?hj0 ?hj1) ?F ?N ?B ?X ?T ?hk ?hd ?hu ?_; walk_at "my_use"; (case tab => exact Tab.keeps (by assumption) (Fr.keep (by k_asm))); (case hl => exact listKeeps (by assumption) (Fr.keep (by k_asm))); (case hi => assumption); (case hn => assumption); (case hj0 => omega); (case hj1 => omega)); k_whole; rintro r' h' tk' F' N' S' ⟨t', e'⟩; subst e'; (try dsimp only); (try k_fold)))
local macro_rules | `(tactic| walk_at "my_a4") => `(tactic| (k_here; (with_reducible show wpAny _ _ (call (Value.ref 124) _ _) _ _ _); k_dflt (refine' Spec.use (dflt_spec _ _ _ _ _ _ _ _ _ _ _ _ _ _ _ ?tab) ?F ?N ?B ?X ?T ?hk ?hd ?hu ?_; walk_at "my_use"; (case tab => exact Tab.keeps (by assumption) (Fr.keep (by k_asm)))); k_whole; rintro r' h' tk' F' N' S' ⟨t', e'⟩; subst e'; (try dsimp only); (try k_fold)))
section TF7
local macro_rules | `(tactic| k_inst) => `(tactic| exact instKeeps (by assumption) (Fr.keep (by k_asm)))
local macro_rules | `(tactic| k_get) => `(tactic| assumption)
local macro_rules | `(tactic| walk_at "subscriptTail") => `(tactic| walk_at "my_a5")
local macro_rules | `(tactic| walk_at "subscriptTail") => `(tactic| walk_at "my_a6")
local macro_rules | `(tactic| walk_at "call ref") => `(tactic| walk_at "my_a3")
local macro_rules | `(tactic| walk_at "call ref") => `(tactic| walk_at "my_a4")
def act (x b : Int) : Int := if x = -1048576 then 0 else if x = 0 then -b else x
set_option maxHeartbeats 8000000 in
theorem action_spec (w : World) (mean : ExcName → Option Value) (mg mb : PySem.Str → Option Value) (s : Shared) (Ta d : Addr) (es : List DictEntry) (n : Nat) (R D : Addr) (k : Int) (r : Addr) (b : Int) (vs : List Value) (ns : List Int) (j : Int) (t1 t2 : Tok)
    (tab : Tab s.heap Ta d es n R D k r b) (hl : s.heap.IsList r vs.toArray) (hi : IntsAre vs ns) (hn : ns.length = 9) (hj0 : 0 ≤ j) (hj1 : j < 9) :
    Spec w mean mg mb 138 [.ref Ta, .int k t1, .int j t2] 3 24 s (fun r _ => ∃ t, r = .int (act (ns.getD j.toNat 0) b) t) := by
  have hI := tab.inst
  have g1 := tab.n1
  have g2 := tab.n2
  ((unfold Spec; k_fill))
  intro dp un gd cn cs a ccd cl outer A₀ base h₀ L m Q E B F X T hk hd hu ret
  ((refine wpAny_call ?_; k_dflt ((first   | (refine' enter ?k1q77 ?k2q77 ?k3q77 ?k5q77 ?kAq77 ?kFq77 ?kKq77 ?k6q77 ?k7q77 ?k8q77 ?k9q77 ?kBq77 ?_ ?c2q77 ?c3q77 ?c4q77 ?c5q77; (case kAq77 => exact rfl); (case kFq77 => exact rfl); (case kKq77 => assumption); (case k1q77 => k_asm); (case k2q77 => k_asm); (case k3q77 => k_asm); (case k5q77 => k_asm); (case k6q77 => k_is); (case k7q77 => k_is); (case k8q77 => ktr_room); (case k9q77 => exact BindsTo.of_eq rfl); (case c5q77 => decide); (case kBq77 => exact locs rfl); (case c2q77 => exact rfl); (case c3q77 => exact rfl); (case c4q77 => exact rfl); k_whole; intro L' h' F' N' B' X' T'; (try dsimp only); (try k_fold))   | (refine' enterC ?k1q77 ?k2q77 ?k3q77 ?k5q77 ?kAq77 ?kFq77 ?kKq77 ?k6q77 ?k7q77 ?k8q77 ?k9q77 ?kBq77 ?kDq77 ?_ ?c2q77 ?c3q77 ?c4q77; (case kAq77 => exact rfl); (case kFq77 => exact rfl); (case kKq77 => assumption); (case k1q77 => k_asm); (case k2q77 => k_asm); (case k3q77 => k_asm); (case k5q77 => k_asm); (case k6q77 => k_is); (case k7q77 => k_is); (case k8q77 => ktr_room); (case k9q77 => exact BindsTo.of_eq rfl); (case kBq77 => exact rfl); (case kDq77 => decide +kernel); (case c2q77 => exact rfl); (case c3q77 => exact rfl); (case c4q77 => exact rfl); k_whole; intro L' h' tk' cells' F' N' Y' B' X' T'; k_cells Y'; (try simp only [List.cons_append, List.nil_append] at N'); (try dsimp only); (try k_fold))))))
  k_steps
  · have e : act (ns.getD j.toNat 0) b = 0 := if_pos (by assumption)
    exact ret _ _ _ (Fr.keep (by assumption)) ⟨_, by rw [e]⟩
  · have e : act (ns.getD j.toNat 0) b = -b := (if_neg (by assumption)).trans (if_pos (by assumption))
    exact ret _ _ _ (Fr.keep (by assumption)) ⟨_, by rw [e]⟩
  · have e : act (ns.getD j.toNat 0) b = ns.getD j.toNat 0 := (if_neg (by assumption)).trans (if_neg (by assumption))
    exact ret _ _ _ (Fr.keep (by assumption)) ⟨_, by rw [e]⟩
local macro_rules | `(tactic| walk_at "exec For Name Call cons nil") => `(tactic| walk_at "my_for")
local macro_rules | `(tactic| walk_at "pyIter ref") => `(tactic| walk_at "my_stop")
set_option maxHeartbeats 8000000 in
theorem consistent_spec (w : World) (mean : ExcName → Option Value) (mg mb : PySem.Str → Option Value) (s : Shared) (Ta d : Addr) (es : List DictEntry) (n : Nat) (R D : Addr) (k : Int) (r : Addr) (b : Int) (vs : List Value) (ns : List Int) (t1 : Tok)
    (tab : Tab s.heap Ta d es n R D k r b) (hl : s.heap.IsList r vs.toArray) (hi : IntsAre vs ns) (hn : ns.length = 9) :
    Spec w mean mg mb 152 [.ref Ta, .int k t1] 3 24 s (fun r _ => ∃ c : Bool, r = .bool c ∧ (c = true ↔ b ≠ 0 ∧ ∀ i, i < 9 → ns.getD i 0 = 0)) := by
  have hI := tab.inst
  have g1 := tab.n1
  have g2 := tab.n2
  obtain ⟨tc, g3⟩ := tab.gCount
  ((unfold Spec; k_fill))
  intro dp un gd cn cs a ccd cl outer A₀ base h₀ L m Q E B F X T hk hd hu ret
  ((refine wpAny_call ?_; k_dflt ((first   | (refine' enter ?k1q78 ?k2q78 ?k3q78 ?k5q78 ?kAq78 ?kFq78 ?kKq78 ?k6q78 ?k7q78 ?k8q78 ?k9q78 ?kBq78 ?_ ?c2q78 ?c3q78 ?c4q78 ?c5q78; (case kAq78 => exact rfl); (case kFq78 => exact rfl); (case kKq78 => assumption); (case k1q78 => k_asm); (case k2q78 => k_asm); (case k3q78 => k_asm); (case k5q78 => k_asm); (case k6q78 => k_is); (case k7q78 => k_is); (case k8q78 => ktr_room); (case k9q78 => exact BindsTo.of_eq rfl); (case c5q78 => decide); (case kBq78 => exact locs rfl); (case c2q78 => exact rfl); (case c3q78 => exact rfl); (case c4q78 => exact rfl); k_whole; intro L' h' F' N' B' X' T'; (try dsimp only); (try k_fold))   | (refine' enterC ?k1q78 ?k2q78 ?k3q78 ?k5q78 ?kAq78 ?kFq78 ?kKq78 ?k6q78 ?k7q78 ?k8q78 ?k9q78 ?kBq78 ?kDq78 ?_ ?c2q78 ?c3q78 ?c4q78; (case kAq78 => exact rfl); (case kFq78 => exact rfl); (case kKq78 => assumption); (case k1q78 => k_asm); (case k2q78 => k_asm); (case k3q78 => k_asm); (case k5q78 => k_asm); (case k6q78 => k_is); (case k7q78 => k_is); (case k8q78 => ktr_room); (case k9q78 => exact BindsTo.of_eq rfl); (case kBq78 => exact rfl); (case kDq78 => decide +kernel); (case c2q78 => exact rfl); (case c3q78 => exact rfl); (case c4q78 => exact rfl); k_whole; intro L' h' tk' cells' F' N' Y' B' X' T'; k_cells Y'; (try simp only [List.cons_append, List.nil_append] at N'); (try dsimp only); (try k_fold))))))
  k_steps
  · exact ret _ _ _ (Fr.keep (by assumption)) ⟨false, rfl, by simp; intro hb; exact absurd (by assumption) hb⟩
  · (rename ¬ b = 0 => hb)
    unfold Stop
    (with_unfolding_all refine' iter_scan (n := 9) (y := PySem.Str.ofString "terminal") (y' := PySem.Str.ofString "terminal") (fun i => ∀ j, j < i → ns.getD j 0 = 0) (by rfl) (by assumption) (by rfl) (by rfl) (by assumption) (by assumption) (by intro j hj; omega) ?turn ?done)
    case turn =>
      intro i t q q' h tk own hi9 hP hoff F N
      (try simp only [List.nil_append, List.cons_append, List.append_nil] at N)
      (try k_fold)
      k_steps
      · (rename List.getD _ _ _ ≠ 0 => hne)
        exact ret _ _ _ (Fr.keep (by assumption)) ⟨false, rfl, fun e => absurd e Bool.false_ne_true, fun q => absurd (q.2 i hi9) (by simpa using hne)⟩
      · (rename List.getD _ _ _ = 0 => hne)
        ((refine scan_end (by assumption) (by assumption) (by (intro p hp; first | k_ownIn | (cases hp))) (by (intro p hp; k_ownIn)) (by (intro z h1 h2 h3; first | rfl | (simp [h1, h2, h3]; done) | (simp_all; done))) ?_))
        intro j hj
        by_cases hji : j = i
        · subst hji; simpa using hne
        · exact hP j (by omega)
    case done =>
      intro q q' q'' h tk hP F N
      (try k_fold)
      k_steps
      exact ret _ _ _ (Fr.keep (by assumption)) ⟨true, rfl, fun _ => ⟨hb, hP⟩, fun _ => rfl⟩
/-- the terminals that are expected, of the first i -/
def expd (ns : List Int) : Nat → List Int
  | 0 => []
  | i + 1 => if ((i : Int) ≠ 1 ∧ (i : Int) ≠ 2) ∧ ns.getD i 0 ≠ 0 ∧ ns.getD i 0 ≠ -1048576 then expd ns i ++ [(i : Int)] else expd ns i
theorem expd_len (ns : List Int) : ∀ i, (expd ns i).length ≤ i
  | 0 => Nat.le_refl _
  | i + 1 => by
    have h := expd_len ns i
    rw [expd]
    split
    · rw [List.length_append]; simp; exact h
    · omega
theorem expd_yes {ns : List Int} {i : Nat} {xs : List Int} (h : xs = expd ns i) (h1 : (i : Int) ≠ 1) (h2 : (i : Int) ≠ 2) (h3 : ns.getD (i : Int).toNat 0 ≠ 0) (h4 : ns.getD (i : Int).toNat 0 ≠ -1048576) : xs ++ [(i : Int)] = expd ns (i + 1) := by
  rw [Int.toNat_natCast] at h3 h4
  rw [expd, if_pos ⟨⟨h1, h2⟩, h3, h4⟩, h]
theorem expd_no {ns : List Int} {i : Nat} {xs : List Int} (h : xs = expd ns i) (q : (i : Int) = 1 ∨ (i : Int) = 2 ∨ ns.getD (i : Int).toNat 0 = 0 ∨ ns.getD (i : Int).toNat 0 = -1048576) : xs = expd ns (i + 1) := by
  rw [Int.toNat_natCast] at q
  rw [expd, if_neg (by omega), h]
set_option maxHeartbeats 8000000 in
theorem expected_spec (w : World) (mean : ExcName → Option Value) (mg mb : PySem.Str → Option Value) (s : Shared) (Ta d : Addr) (es : List DictEntry) (n : Nat) (R D : Addr) (k : Int) (r : Addr) (b : Int) (vs : List Value) (ns : List Int) (t1 : Tok)
    (tab : Tab s.heap Ta d es n R D k r b) (hl : s.heap.IsList r vs.toArray) (hi : IntsAre vs ns) (hn : ns.length = 9) :
    Spec w mean mg mb 145 [.ref Ta, .int k t1] 3 24 s (NewInts s.heap (expd ns 9)) := by
  have hI := tab.inst
  have g1 := tab.n1
  obtain ⟨tc, g3⟩ := tab.gCount
  ((unfold Spec; k_fill))
  intro dp un gd cn cs a ccd cl outer A₀ base h₀ L m Q E B F X T hk hd hu ret
  ((refine wpAny_call ?_; k_dflt ((first   | (refine' enter ?k1q79 ?k2q79 ?k3q79 ?k5q79 ?kAq79 ?kFq79 ?kKq79 ?k6q79 ?k7q79 ?k8q79 ?k9q79 ?kBq79 ?_ ?c2q79 ?c3q79 ?c4q79 ?c5q79; (case kAq79 => exact rfl); (case kFq79 => exact rfl); (case kKq79 => assumption); (case k1q79 => k_asm); (case k2q79 => k_asm); (case k3q79 => k_asm); (case k5q79 => k_asm); (case k6q79 => k_is); (case k7q79 => k_is); (case k8q79 => ktr_room); (case k9q79 => exact BindsTo.of_eq rfl); (case c5q79 => decide); (case kBq79 => exact locs rfl); (case c2q79 => exact rfl); (case c3q79 => exact rfl); (case c4q79 => exact rfl); k_whole; intro L' h' F' N' B' X' T'; (try dsimp only); (try k_fold))   | (refine' enterC ?k1q79 ?k2q79 ?k3q79 ?k5q79 ?kAq79 ?kFq79 ?kKq79 ?k6q79 ?k7q79 ?k8q79 ?k9q79 ?kBq79 ?kDq79 ?_ ?c2q79 ?c3q79 ?c4q79; (case kAq79 => exact rfl); (case kFq79 => exact rfl); (case kKq79 => assumption); (case k1q79 => k_asm); (case k2q79 => k_asm); (case k3q79 => k_asm); (case k5q79 => k_asm); (case k6q79 => k_is); (case k7q79 => k_is); (case k8q79 => ktr_room); (case k9q79 => exact BindsTo.of_eq rfl); (case kBq79 => exact rfl); (case kDq79 => decide +kernel); (case c2q79 => exact rfl); (case c3q79 => exact rfl); (case c4q79 => exact rfl); k_whole; intro L' h' tk' cells' F' N' Y' B' X' T'; k_cells Y'; (try simp only [List.cons_append, List.nil_append] at N'); (try dsimp only); (try k_fold))))))
  k_steps
  unfold Stop
  (with_unfolding_all refine' iter_fill (n := 9) (y := PySem.Str.ofString "told") (y' := PySem.Str.ofString "told") (vs₀ := []) (news := []) (fun i xs => xs = expd ns i) (by rfl) (by assumption) (by rfl) (by rfl) (by assumption) (by assumption) ⟨[], .nil, rfl⟩ ?turn ?done)
  case turn =>
    intro i t us xs e q q' h tk own hi9 hI hP hoff F N
    (try simp only [List.nil_append, List.cons_append, List.append_nil] at N)
    (try k_fold)
    have hul : us.length ≤ 9 := by
      have h1 := expd_len ns i
      rw [hI.length, hP]; omega
    k_steps
    · (((refine fill_end (news := []) (by assumption) (by assumption) (by k_mem) (by simp) (by (intro p hp; k_ownIn)) (by assumption) (by (intro z h1 h2 h3; first | rfl | (simp [h1, h2, h3]; done) | (simp_all; done))) ?_)))
      exact expd_yes hP (by assumption) (by assumption) (by assumption) (by assumption)
    · ((refine fill_same (news := []) (by assumption) (by assumption) (by k_mem) (by simp) (by (intro p hp; k_ownIn)) (by assumption) (by (intro z h1 h2 h3; first | rfl | (simp [h1, h2, h3]; done) | (simp_all; done))) ?_))
      exact expd_no hP (.inr (.inr (.inr (by assumption))))
    · ((refine fill_same (news := []) (by assumption) (by assumption) (by k_mem) (by simp) (by (intro p hp; k_ownIn)) (by assumption) (by (intro z h1 h2 h3; first | rfl | (simp [h1, h2, h3]; done) | (simp_all; done))) ?_))
      exact expd_no hP (.inr (.inr (.inl (by assumption))))
    · ((refine fill_same (news := []) (by assumption) (by assumption) (by k_mem) (by simp) (by (intro p hp; k_ownIn)) (by assumption) (by (intro z h1 h2 h3; first | rfl | (simp [h1, h2, h3]; done) | (simp_all; done))) ?_))
      exact expd_no hP (.inr (.inl (by assumption)))
    · ((refine fill_same (news := []) (by assumption) (by assumption) (by k_mem) (by simp) (by (intro p hp; k_ownIn)) (by assumption) (by (intro z h1 h2 h3; first | rfl | (simp [h1, h2, h3]; done) | (simp_all; done))) ?_))
      exact expd_no hP (.inl (by assumption))
  case done =>
    intro q q' q'' us xs e h tk hI hP F N
    subst hP
    (try k_fold)
    k_steps
    exact ret _ _ _ (Fr.keep (by assumption)) (NewInts.intro (by assumption) (by k_mem) hI)
end TF7
-- F8
local macro_rules | `(tactic| walk_at "my_list") => `(tactic| first | exact isList_news (by k_asm) (by k_mem) | exact listKeeps (by assumption) (Fr.keep (by k_asm)))
section TF8
local macro_rules | `(tactic| k_inst) => `(tactic| exact instKeeps (by assumption) (Fr.keep (by k_asm)))
local macro_rules | `(tactic| k_get) => `(tactic| assumption)
local macro_rules | `(tactic| walk_at "subscriptTail") => `(tactic| walk_at "my_a5")
local macro_rules | `(tactic| walk_at "subscriptTail") => `(tactic| walk_at "my_a6")
local macro_rules | `(tactic| walk_at "call ref") => `(tactic| walk_at "my_a3")
local macro_rules | `(tactic| walk_at "call ref") => `(tactic| walk_at "my_a4")
local macro_rules | `(tactic| walk_at "call ref") => `(tactic| (k_here; (with_reducible show wpAny _ _ (call (Value.ref 138) _ _) _ _ _); k_dflt (refine' Spec.use (action_spec _ _ _ _ _ _ _ _ _ _ _ _ _ _ _ _ _ _ _ ?tab ?hl ?hi ?hn ?hj0 ?hj1) ?F ?N ?B ?X ?T ?hk ?hd ?hu ?_; walk_at "my_use"; (case tab => exact Tab.keeps (by assumption) (Fr.keep (by k_asm))); (case hl => exact listKeeps (by assumption) (Fr.keep (by k_asm))); (case hi => assumption); (case hn => assumption); (case hj0 => omega); (case hj1 => omega)); k_whole; rintro r' h' tk' F' N' S' ⟨t', e'⟩; subst e'; (try dsimp only); (try k_fold)))
local macro_rules | `(tactic| walk_at "call ref") => `(tactic| (k_here; (with_reducible show wpAny _ _ (call (Value.ref 152) _ _) _ _ _); k_dflt (refine' Spec.use (consistent_spec _ _ _ _ _ _ _ _ _ _ _ _ _ _ _ _ _ ?tab ?hl ?hi ?hn) ?F ?N ?B ?X ?T ?hk ?hd ?hu ?_; walk_at "my_use"; (case tab => exact Tab.keeps (by assumption) (Fr.keep (by k_asm))); (case hl => exact listKeeps (by assumption) (Fr.keep (by k_asm))); (case hi => assumption); (case hn => assumption)); k_whole; rintro r' h' tk' F' N' S' ⟨c', e', q'⟩; subst e'; (try dsimp only); (try k_fold)))
local macro_rules | `(tactic| walk_at "call ref") => `(tactic| (k_here; (with_reducible show wpAny _ _ (call (Value.ref 145) _ _) _ _ _); k_dflt (refine' Spec.use (expected_spec _ _ _ _ _ _ _ _ _ _ _ _ _ _ _ _ _ ?tab ?hl ?hi ?hn) ?F ?N ?B ?X ?T ?hk ?hd ?hu ?_; walk_at "my_use"; (case tab => exact Tab.keeps (by assumption) (Fr.keep (by k_asm))); (case hl => exact listKeeps (by assumption) (Fr.keep (by k_asm))); (case hi => assumption); (case hn => assumption)); k_whole; intro r' h' tk' F' N' S' P'; obtain ⟨l', ys', n', e', N'', ne', hI'⟩ := P'.news (by assumption) (by assumption) S'; subst e'; (try simp only [AllNe, and_true] at ne'); clear N' P'; (try dsimp only); (try k_fold)))
local macro_rules | `(tactic| walk_at "exec For Name Call cons nil") => `(tactic| walk_at "my_for")
local macro_rules | `(tactic| walk_at "pyIter ref") => `(tactic| walk_at "my_stop")
theorem if_tt {b : Bool} {p q : Prop} (h : b = true) (hp : p) : if b = true then p else q := by rw [if_pos h]; exact hp
theorem if_ff {b : Bool} {p q : Prop} (h : b = false) (hq : q) : if b = true then p else q := by rw [h]; exact hq
theorem beq_y {a b : Int} (h : a = b) : (a == b) = true := beq_iff_eq.mpr h
theorem beq_n {a b : Int} (h : a ≠ b) : (a == b) = false := beq_eq_false_iff_ne.mpr h
theorem bne_y {a b : Int} (h : a ≠ b) : (a != b) = true := bne_iff_ne.mpr h
theorem bne_n {a b : Int} (h : a = b) : (a != b) = false := by simp [h]
local macro_rules | `(tactic| walk_at "ite") => `(tactic| (k_here; first
  | (with_reducible refine if_tt (beq_y ?hq) ?_; (case hq => omega); walk_say "MINE YES")
  | (with_reducible refine if_ff (beq_n ?hq) ?_; (case hq => omega); walk_say "MINE NO")
  | (with_reducible refine if_tt (bne_y ?hq) ?_; (case hq => omega); walk_say "MINE YES")
  | (with_reducible refine if_ff (bne_n ?hq) ?_; (case hq => omega); walk_say "MINE NO")))
local macro_rules | `(tactic| walk_at "CompSrcT") => `(tactic| refine Stop.of ?_)
local macro_rules | `(tactic| walk_at "CompSrc") => `(tactic| refine Stop.of ?_)
local macro_rules | `(tactic| walk_at "CompEnd") => `(tactic| refine Stop.of ?_)
local macro_rules | `(tactic| walk_at "compareOp Eq ref ref") => `(tactic| (k_here; (with_reducible show wpAny _ _ (compareOp CmpOp.Eq (Value.ref _) (Value.ref _)) _ _ _); k_dflt (refine' eq_intsK ?k1 ?k2 ?k3 ?k4 ?k5 ?_; (case k1 => walk_at "my_list"); (case k2 => first | assumption | exact .nil); (case k3 => walk_at "my_list"); (case k4 => first | assumption | exact .nil); (case k5 => ktr_units); k_whole)))
theorem kgrow {p : Int → Prop} [DecidablePred p] : KPfGrows (fun l x => if p x then l ++ [x] else l) := by
  intro l x
  show (if p x then l ++ [x] else l).length ≤ _
  split
  · simp
  · omega
theorem fold_nil {p : Int → Prop} [DecidablePred p] : ∀ (ns l : List Int), ns.foldl (fun l x => if p x then l ++ [x] else l) l = [] ↔ l = [] ∧ ∀ x ∈ ns, ¬ p x
  | [], l => by simp
  | n :: ns, l => by
    rw [List.foldl_cons, fold_nil ns]
    by_cases h : p n
    · simp [h]
    · simp [h]
def cutv (b x : Int) : Int := if b ≠ 0 ∧ x = -b then 0 else x
theorem cell_cases {x y b : Int} (hy : y = cutv b x) (h0 : 0 ≤ b) (h4 : b ≤ 4) :
    (x = -1048576 ∧ y = -1048576 ∧ act x 0 = 0 ∧ act y b = 0) ∨ (x = 0 ∧ y = 0 ∧ act x 0 = 0 ∧ act y b = -b) ∨ (b ≠ 0 ∧ x = -b ∧ y = 0 ∧ act x 0 = -b ∧ act y b = -b) ∨
    (x ≠ 0 ∧ x ≠ -1048576 ∧ (b = 0 ∨ x ≠ -b) ∧ y = x ∧ act x 0 = x ∧ act y b = x) := by
  subst hy
  by_cases h1 : x = -1048576
  · left
    have e : cutv b x = x := if_neg (by omega)
    rw [e]
    exact ⟨h1, h1, if_pos h1, if_pos h1⟩
  · by_cases h2 : x = 0
    · right; left
      have e : cutv b x = 0 := by unfold cutv; split <;> omega
      rw [e]
      subst h2
      exact ⟨rfl, rfl, by simp [act], by simp [act]⟩
    · by_cases h3 : b ≠ 0 ∧ x = -b
      · right; right; left
        have e : cutv b x = 0 := if_pos h3
        rw [e]
        exact ⟨h3.1, h3.2, rfl, by rw [act, if_neg h1, if_neg h2, h3.2], by simp [act]⟩
      · right; right; right
        have e : cutv b x = x := if_neg h3
        rw [e]
        exact ⟨h2, h1, by omega, rfl, by rw [act, if_neg h1, if_neg h2], by rw [act, if_neg h1, if_neg h2]⟩
theorem all_getD {ns : List Int} {P : Int → Prop} (hn : ns.length = 9) : (∀ x ∈ ns, P x) ↔ ∀ i, i < 9 → P (ns.getD i 0) := by
  constructor
  · intro h i hi
    have hl : i < ns.length := by omega
    rw [List.getD_eq_getElem?_getD, List.getElem?_eq_getElem hl]
    exact h _ (List.getElem_mem hl)
  · intro h x hx
    obtain ⟨i, hl, e⟩ := List.getElem_of_mem hx
    have := h i (by omega)
    rw [List.getD_eq_getElem?_getD, List.getElem?_eq_getElem hl] at this
    rw [← e]; exact this
theorem any2_f {p q k : Int} (h : ([p, q].any fun x => x == k) = false) : k ≠ p ∧ k ≠ q := by
  simp at h
  omega
theorem any2_t {p q k : Int} (h : ([p, q].any fun x => x == k) = true) : k = p ∨ k = q := by
  simp at h
  omega
theorem ranges (i : Nat) : rangeKs 0 (i + 1) = rangeKs 0 i ++ [(i : Int)] := by
  simp [rangeKs, List.range_succ]
theorem kept_eq {b : Int} {ns cs : List Int} (hcut : ∀ i, i < 9 → cs.getD i 0 = cutv b (ns.getD i 0)) (h0 : 0 ≤ b) (h4 : b ≤ 4) : ∀ i, i ≤ 9 →
    (rangeKs 0 i).foldl (fun l t => if (t ≠ 1 ∧ t ≠ 2) ∧ (ns.getD t.toNat 0 ≠ 0 ∧ ns.getD t.toNat 0 ≠ -1048576) ∧ (b = 0 ∨ ns.getD t.toNat 0 ≠ -b) then l ++ [t] else l) [] = expd cs i
  | 0, _ => rfl
  | i + 1, hi => by
    rw [ranges, List.foldl_append, kept_eq hcut h0 h4 i (by omega)]
    show (if _ then _ else _) = _
    rw [expd, Int.toNat_natCast, hcut i (by omega)]
    have e : ((((i : Int) ≠ 1 ∧ (i : Int) ≠ 2) ∧ (ns.getD i 0 ≠ 0 ∧ ns.getD i 0 ≠ -1048576) ∧ (b = 0 ∨ ns.getD i 0 ≠ -b)) ↔ (((i : Int) ≠ 1 ∧ (i : Int) ≠ 2) ∧ cutv b (ns.getD i 0) ≠ 0 ∧ cutv b (ns.getD i 0) ≠ -1048576)) := by
      unfold cutv
      split <;> omega
    simp only [e]
theorem mis0 {b : Int} {c : Bool} {Z : Prop} (hb : b = 0) (q : c = true ↔ b ≠ 0 ∧ Z) (h : (c != (b != 0)) = true) : False := by
  cases c with
  | true => exact (q.mp rfl).1 hb
  | false => simp [hb] at h
theorem mis1 {b : Int} {c : Bool} {ns cs os : List Int} (hb : b ≠ 0) (q : c = true ↔ b ≠ 0 ∧ ∀ i, i < 9 → cs.getD i 0 = 0) (h : (c != decide (os = [])) = true)
    (hcut : ∀ i, i < 9 → cs.getD i 0 = cutv b (ns.getD i 0)) (hn : ns.length = 9) (hO : List.foldl (fun l x => if x ≠ 0 ∧ x ≠ -b then l ++ [x] else l) [] ns = os) : False := by
  have e1 : os = [] ↔ ∀ i, i < 9 → cs.getD i 0 = 0 := by
    rw [← hO, fold_nil (p := fun x => x ≠ 0 ∧ x ≠ -b)]
    rw [show ([] = ([] : List Int) ∧ ∀ x ∈ ns, ¬ (x ≠ 0 ∧ x ≠ -b)) ↔ ∀ x ∈ ns, ¬ (x ≠ 0 ∧ x ≠ -b) from ⟨fun q => q.2, fun q => ⟨rfl, q⟩⟩, all_getD (P := fun x => ¬ (x ≠ 0 ∧ x ≠ -b)) hn]
    refine ⟨fun q i hi => ?_, fun q i hi => ?_⟩
    · have := q i hi
      rw [hcut i hi]
      unfold cutv
      split <;> omega
    · have := q i hi
      rw [hcut i hi] at this
      unfold cutv at this
      split at this <;> omega
  cases c with
  | true => 
    have := e1.mpr (q.mp rfl).2
    simp [this] at h
  | false =>
    have : ¬ os = [] := fun e => absurd (q.mpr ⟨hb, e1.mp e⟩) Bool.false_ne_true
    simp [this] at h
set_option maxHeartbeats 8000000 in
theorem state_spec (w : World) (mean : ExcName → Option Value) (mg mb : PySem.Str → Option Value) (s : Shared) (W dW : Addr) (esW : List DictEntry) (nW : Nat) (RW DW : Addr) (C dC : Addr) (esC : List DictEntry) (nC : Nat) (RC DC : Addr) (k : Int) (r lc : Addr) (b : Int) (vs vc : List Value) (ns cs : List Int) (t1 t2 : Tok)
    (tabW : Tab s.heap W dW esW nW RW DW k r 0) (tabC : Tab s.heap C dC esC nC RC DC k lc b) (hl : s.heap.IsList r vs.toArray) (hi : IntsAre vs ns) (hn : ns.length = 9) (hlc : s.heap.IsList lc vc.toArray) (hic : IntsAre vc cs) (hnc : cs.length = 9)
    (hcell : ∀ i, i < 9 → Cell (ns.getD i 0)) (hcut : ∀ i, i < 9 → cs.getD i 0 = cutv b (ns.getD i 0)) (hb0 : 0 ≤ b) (hb4 : b ≤ 4) :
    Spec w mean mg mb 356 [.ref W, .ref C, .int k t1, .ref r, .int b t2] 6 140 s (fun r _ => r = .bool true) := by
  have hIW := tabW.inst
  have hIC := tabC.inst
  have gW1 := tabW.n1
  have gC1 := tabC.n1
  have gW2 := tabW.n2
  have gC2 := tabC.n2
  have gW3 := tabW.n3
  have gC3 := tabC.n3
  have gW4 := tabW.n4
  have gC4 := tabC.n4
  have gW5 := tabW.n5
  have gC5 := tabC.n5
  ((unfold Spec; k_fill))
  intro dp un gd cn cs' a ccd cl outer A₀ base h₀ L m Q E B F X T hk hd hu ret
  ((refine wpAny_call ?_; k_dflt ((first   | (refine' enter ?k1q81 ?k2q81 ?k3q81 ?k5q81 ?kAq81 ?kFq81 ?kKq81 ?k6q81 ?k7q81 ?k8q81 ?k9q81 ?kBq81 ?_ ?c2q81 ?c3q81 ?c4q81 ?c5q81; (case kAq81 => exact rfl); (case kFq81 => exact rfl); (case kKq81 => assumption); (case k1q81 => k_asm); (case k2q81 => k_asm); (case k3q81 => k_asm); (case k5q81 => k_asm); (case k6q81 => k_is); (case k7q81 => k_is); (case k8q81 => ktr_room); (case k9q81 => exact BindsTo.of_eq rfl); (case c5q81 => decide); (case kBq81 => exact locs rfl); (case c2q81 => exact rfl); (case c3q81 => exact rfl); (case c4q81 => exact rfl); k_whole; intro L' h' F' N' B' X' T'; (try dsimp only); (try k_fold))   | (refine' enterC ?k1q81 ?k2q81 ?k3q81 ?k5q81 ?kAq81 ?kFq81 ?kKq81 ?k6q81 ?k7q81 ?k8q81 ?k9q81 ?kBq81 ?kDq81 ?_ ?c2q81 ?c3q81 ?c4q81; (case kAq81 => exact rfl); (case kFq81 => exact rfl); (case kKq81 => assumption); (case k1q81 => k_asm); (case k2q81 => k_asm); (case k3q81 => k_asm); (case k5q81 => k_asm); (case k6q81 => k_is); (case k7q81 => k_is); (case k8q81 => ktr_room); (case k9q81 => exact BindsTo.of_eq rfl); (case kBq81 => exact rfl); (case kDq81 => decide +kernel); (case c2q81 => exact rfl); (case c3q81 => exact rfl); (case c4q81 => exact rfl); k_whole; intro L' h' tk' cells' F' N' Y' B' X' T'; k_cells Y'; (try simp only [List.cons_append, List.nil_append] at N'); (try dsimp only); (try k_fold))))))
  k_steps
  unfold Stop
  (with_unfolding_all refine' iter_scan (n := 9) (y := PySem.Str.ofString "plain") (y' := PySem.Str.ofString "due") (fun _ => True) (by rfl) (by assumption) (by rfl) (by rfl) (by assumption) (by assumption) trivial ?turn ?done)
  case turn =>
    intro i t q q' h tk own hi9 hP hoff F N
    have hii : ((i : Int)).toNat = i := Int.toNat_natCast i
    have hcc := cell_cases (hcut i hi9) hb0 hb4
    rw [← hii] at hcc
    clear hcell hcut
    (try simp only [List.nil_append, List.cons_append, List.append_nil] at N)
    (try k_fold)
    rcases hcc with ⟨c1, c2, c3, c4⟩ | ⟨c1, c2, c3, c4⟩ | ⟨c0, c1, c2, c3, c4⟩ | ⟨c0, c1, c5, c2, c3, c4⟩
    all_goals k_steps
    all_goals ((refine scan_end (by assumption) (by assumption) (by (with_unfolding_all ((try simp only [List.nil_append, List.cons_append]); k_allIn))) (by (intro p hp; k_ownIn)) (by (intro z h1 h2 h3; first | rfl | (simp [h1, h2, h3]; done) | (simp_all; done))) ?_))
    all_goals exact trivial
  case done =>
    intro q q' q'' h tk hP F N
    (try k_fold)
    k_steps
    unfold Stop
    k_dflt (refine LCt.CompSrcT.base (by rfl) (by k_asm) (by k_asm) hl (by size_fits) ?_)
    intro g'
    (refine' kci_list (fun l x => if x ≠ 0 ∧ x ≠ -b then l ++ [x] else l) hi (fun k' t' I' oI' C' oC' D' m' ys' l' h' tk' E' hk' hI' hC' hx' F' N' off' ne' => ?turn1) ?fin1 ?grow1)
    case turn1 =>
      simp only [LCg.Off3, and_true] at off'
      intro hMark
      k_steps
      · ((unfold Stop; refine LCg.CompEnd.intro (by assumption) (by assumption) _ ?subq41 ?offq41 ?hSq41 (kci_el ?eq41 rfl rfl); (case subq41 => kcf_all); (case offq41 => first | assumption | (simp only [LCg.Off3, and_true]; assumption)); (case hSq41 => first | lcg_src | assumption)))
        exact if_pos ⟨by assumption, by assumption⟩
      · ((unfold Stop; refine LCg.CompEnd.intro (by assumption) (by assumption) _ ?subq42 ?offq42 ?hSq42 (kci_no ?eq42 rfl); (case subq42 => kcf_all); (case offq42 => first | assumption | (simp only [LCg.Off3, and_true]; assumption)); (case hSq42 => first | lcg_src | assumption)))
        exact if_neg (by rintro ⟨q1, q2⟩; exact q2 (by assumption))
      · ((unfold Stop; refine LCg.CompEnd.intro (by assumption) (by assumption) _ ?subq43 ?offq43 ?hSq43 (kci_no ?eq43 rfl); (case subq43 => kcf_all); (case offq43 => first | assumption | (simp only [LCg.Off3, and_true]; assumption)); (case hSq43 => first | lcg_src | assumption)))
        exact if_neg (by rintro ⟨q1, q2⟩; exact q1 (by assumption))
    case grow1 => exact kgrow
    case fin1 =>
      generalize hO : List.foldl (fun l x => if x ≠ 0 ∧ x ≠ -b then l ++ [x] else l) [] ns = os
      k_steps
      · exfalso
        (rename b ≠ 0 => hb)
        (rename _ = true ↔ _ => q1)
        (rename (_ != _) = true => q2)
        exact mis1 hb q1 q2 hcut hn hO
      · exfalso
        (rename _ = true ↔ _ => q1)
        (rename _ = true => q2)
        exact (q1.mp q2).1 rfl
      · unfold Stop
        k_dflt (refine LCt.CompSrcT.range (n := 9) (by rfl) (by k_asm) (by k_asm) (by assumption) (by rfl) (by rfl) (by size_fits) ?_)
        intro g'
        (refine' kci_range (fun l t => if (t ≠ 1 ∧ t ≠ 2) ∧ (ns.getD t.toNat 0 ≠ 0 ∧ ns.getD t.toNat 0 ≠ -1048576) ∧ (b = 0 ∨ ns.getD t.toNat 0 ≠ -b) then l ++ [t] else l) (fun k' t' I' oI' C' oC' D' m' ys' l' h' tk' E' hlo' hhi' hI' hC' hx' F' N' off' ne' => ?turn2) ?fin2 ?grow2)
        case turn2 =>
          simp only [LCg.Off3, and_true] at off'
          intro hMark
          k_steps
          · ((unfold Stop; refine LCg.CompEnd.intro (by assumption) (by assumption) _ ?subq44 ?offq44 ?hSq44 (kci_no ?eq44 rfl); (case subq44 => kcf_all); (case offq44 => first | assumption | (simp only [LCg.Off3, and_true]; assumption)); (case hSq44 => first | lcg_src | assumption)))
            (rename List.any [1, 2] _ = true => q)
            have := any2_t q
            exact if_neg (by omega)
          · ((unfold Stop; refine LCg.CompEnd.intro (by assumption) (by assumption) _ ?subq45 ?offq45 ?hSq45 (kci_no ?eq45 rfl); (case subq45 => kcf_all); (case offq45 => first | assumption | (simp only [LCg.Off3, and_true]; assumption)); (case hSq45 => first | lcg_src | assumption)))
            (rename List.any [0, -1048576] _ = true => q)
            have := any2_t q
            exact if_neg (by omega)
          · ((unfold Stop; refine LCg.CompEnd.intro (by assumption) (by assumption) _ ?subq46 ?offq46 ?hSq46 (kci_el ?eq46 rfl rfl); (case subq46 => kcf_all); (case offq46 => first | assumption | (simp only [LCg.Off3, and_true]; assumption)); (case hSq46 => first | lcg_src | assumption)))
            (rename List.any [1, 2] _ = false => q)
            (rename List.any [0, -1048576] _ = false => q')
            have := any2_f q
            have := any2_f q'
            exact if_pos (by omega)
          · ((unfold Stop; refine LCg.CompEnd.intro (by assumption) (by assumption) _ ?subq47 ?offq47 ?hSq47 (kci_no ?eq47 rfl); (case subq47 => kcf_all); (case offq47 => first | assumption | (simp only [LCg.Off3, and_true]; assumption)); (case hSq47 => first | lcg_src | assumption)))
            exact if_neg (by omega)
        case grow2 => exact kgrow
        case fin2 =>
          generalize hK : List.foldl _ [] (rangeKs 0 9) = kept
          k_steps
          · exact ret _ _ _ (Fr.keep (by assumption)) (congrArg Value.bool (beq_self_eq_true b))
          · exact ret _ _ _ (Fr.keep (by assumption)) (congrArg Value.bool (decide_eq_true ((kept_eq hcut hb0 hb4 9 (Nat.le_refl _)).symm.trans hK)))
      · exfalso
        (rename b = 0 => hb)
        (rename _ = true ↔ _ => q1)
        (rename (_ != _) = true => q2)
        exact mis0 hb q1 q2
      · exfalso
        (rename _ = true ↔ _ => q1)
        (rename _ = true => q2)
        exact (q1.mp q2).1 rfl
      · unfold Stop
        k_dflt (refine LCt.CompSrcT.range (n := 9) (by rfl) (by k_asm) (by k_asm) (by assumption) (by rfl) (by rfl) (by size_fits) ?_)
        intro g'
        (refine' kci_range (fun l t => if (t ≠ 1 ∧ t ≠ 2) ∧ (ns.getD t.toNat 0 ≠ 0 ∧ ns.getD t.toNat 0 ≠ -1048576) ∧ (b = 0 ∨ ns.getD t.toNat 0 ≠ -b) then l ++ [t] else l) (fun k' t' I' oI' C' oC' D' m' ys' l' h' tk' E' hlo' hhi' hI' hC' hx' F' N' off' ne' => ?turn3) ?fin3 ?grow3)
        case turn3 =>
          simp only [LCg.Off3, and_true] at off'
          intro hMark
          k_steps
          · ((unfold Stop; refine LCg.CompEnd.intro (by assumption) (by assumption) _ ?subq48 ?offq48 ?hSq48 (kci_no ?eq48 rfl); (case subq48 => kcf_all); (case offq48 => first | assumption | (simp only [LCg.Off3, and_true]; assumption)); (case hSq48 => first | lcg_src | assumption)))
            (rename List.any [1, 2] _ = true => q)
            have := any2_t q
            exact if_neg (by omega)
          · ((unfold Stop; refine LCg.CompEnd.intro (by assumption) (by assumption) _ ?subq49 ?offq49 ?hSq49 (kci_no ?eq49 rfl); (case subq49 => kcf_all); (case offq49 => first | assumption | (simp only [LCg.Off3, and_true]; assumption)); (case hSq49 => first | lcg_src | assumption)))
            (rename List.any [0, -1048576] _ = true => q)
            have := any2_t q
            exact if_neg (by omega)
          · ((unfold Stop; refine LCg.CompEnd.intro (by assumption) (by assumption) _ ?subq50 ?offq50 ?hSq50 (kci_el ?eq50 rfl rfl); (case subq50 => kcf_all); (case offq50 => first | assumption | (simp only [LCg.Off3, and_true]; assumption)); (case hSq50 => first | lcg_src | assumption)))
            (rename List.any [1, 2] _ = false => q)
            (rename List.any [0, -1048576] _ = false => q')
            have := any2_f q
            have := any2_f q'
            exact if_pos (by omega)
        case grow3 => exact kgrow
        case fin3 =>
          generalize hK : List.foldl _ [] (rangeKs 0 9) = kept
          k_steps
          · exact ret _ _ _ (Fr.keep (by assumption)) (congrArg Value.bool (beq_self_eq_true b))
          · exact ret _ _ _ (Fr.keep (by assumption)) (congrArg Value.bool (decide_eq_true ((kept_eq hcut hb0 hb4 9 (Nat.le_refl _)).symm.trans hK)))
end TF8
-- FL
section TFL
section
variable {prog : Program} {w : World} {A : Around} {E : Value → Shared → Prop} {s : Shared} {h₀ : Heap} {L : Addr} {m : PySem.Str → Option Value} {env : Env}
abbrev tupO (its : Array Value) (k : Nat) : Obj := { cls := .type "tuple", data := .seq its k }
theorem tup_st {ax I : Addr} {its : Array Value} {k : Nat} : ∀ i (h h' : Heap) (o : Obj) (nw : List (Addr × Obj)), (h.IsTupleIter I ax i ∧ h.IsTuple ax its) → h.get? I = some o → h'.get? I = some o → (∀ b o, h₀.get? b = some o → h'.get? b = some o) → News h₀ L h' nw → (ax, tupO its k) ∈ nw → (h'.IsTupleIter I ax i ∧ h'.IsTuple ax its) :=
  fun i h h' o nw st e e' _ N S => ⟨by obtain ⟨o', q, r⟩ := st.1; rw [e] at q; cases q; exact ⟨o, e', r⟩, ⟨_, (N _ S).1, rfl, k, rfl⟩⟩
/-- a list comprehension over a made tuple -/
theorem comp_tup {elt iter : Expr} {x : PySem.Str} {px : Pos} {scope : Scope} {cl : List (PySem.Str × Addr)} {pos : Pos} {Q : Value → Shared → Prop} (_F₀ : Fr h₀ L s.heap m)
    (hclos : closureFor scope env = pure cl) (hcell : ∀ y ∈ scope.names, y.2 ≠ .cell) (hkind : scope.kind = .function)
    (hnames : ∀ y ∈ scope.names, y.2 = .local → scope.names.lookup y.1 = some .local) (hx : scope.names.lookup x = some .local)
    (h : wpAny (model prog w) A (eval iter env) (fun xv s₁ => ∃ ax its k news, xv = .ref ax ∧ A.handled = none ∧ Fr h₀ L s₁.heap m ∧ News h₀ L s₁.heap news ∧ (ax, tupO its k) ∈ news ∧ its.size ≤ sizeLine ∧
      ∀ s₂ : Shared, (∃ h, s₂ = { s₁ with heap := h }) → LCg.CompRest prog w A h₀ L m env elt x scope cl s₂ (fun nw => (ax, tupO its k) ∈ nw) (fun i v => its[i]? = some v) (LCg.FinE h₀ L m s₂ Q) its.size 0 [] news) E s)
    (hs : ∀ x, foldedSetIterable iter env x = pure x := by intro _; rfl) :
    wpAny (model prog w) A (eval (.ListComp elt [⟨.Name x px, iter, [], 0⟩] scope pos) env) Q E s := by
  rw [eval_ListComp]
  refine wpAny_comprehension_free (use := none) rfl hs hclos hkind hnames (wpAny_mono h (fun xv s₁ h₁ => ?_) fun _ _ e => e)
  obtain ⟨ax, its, k, news, rfl, hh, F, N, S, hsz, R⟩ := h₁
  have hl : s₁.heap.IsTuple ax its := ⟨_, (N _ S).1, rfl, k, rfl⟩
  have hlt : ax < s₁.heap.objs.size := by obtain ⟨_, e, _⟩ := hl; exact Heap.lt_size e
  refine wpAny_pyIter_tuple hl ?_
  have up : ∀ b o, s₁.heap.get? b = some o → (s₁.heap.push { cls := .type "tuple_iterator", data := .fields #[.ref ax, .int 0 0] }).get? b = some o := fun b o e => Heap.get?_push_of_some _ e
  refine LCg.block_U (Walks.tuple hh s₁.heap.objs.size ax (Nat.ne_of_lt hlt) its) hsz (fun i h st => by obtain ⟨o, e, _⟩ := st.1; exact ⟨o, e⟩) tup_st hcell hkind hx ⟨⟨_, Heap.get?_push_size _ rfl, rfl, rfl⟩, hl.at fun o e => up _ _ e⟩ (fun b hb => ?_)
    (F.keeps up) (N.grown up) (Nat.ne_of_lt F.ns.lt) (next_is_new F) (fun p hp => Nat.ne_of_lt (Heap.lt_size (N p hp).1)) S (R _ ⟨_, rfl⟩) ?_
  · show b < (s₁.heap.push _).objs.size
    rw [Heap.size_push]
    rcases List.mem_cons.mp hb with rfl | hb
    · exact Nat.lt_succ_self _
    · rw [List.mem_singleton.mp hb]; exact Nat.lt_succ_of_lt hlt
  · intro D C h tk m' ys news' F' N' o1 hn hC₀ hD₀ hCL hDL hCD offC fin
    refine ⟨m', hn, fun h'' hs'' => fin D h'' tk (F'.change hs'' hCL hC₀) (fun p hp => ?_) o1⟩
    refine ⟨hs''.extBut _ _ ?_ (N' p hp).1, (N' p hp).2⟩
    rcases List.mem_cons.mp hp with rfl | hp
    · exact Ne.symm hCD
    · exact offC p hp
theorem adjust_upto (b n : Nat) (hb : b ≤ n) : Builtin.Slice.sliceAdjust none (some (b : Int)) 1 (n : Int) = (0, (b : Int)) := by
  unfold Builtin.Slice.sliceAdjust
  have h1 : ¬ ((1 : Int) < 0) := by omega
  have h2 : ¬ ((b : Int) < 0) := by omega
  simp only [h1, h2, if_false]
  congr 1
  omega
theorem places_upto (b : Nat) : Builtin.Slice.slicePlaces 0 (b : Int) 1 = b := by
  unfold Builtin.Slice.slicePlaces
  have h1 : (1 : Int) > 0 := by omega
  simp only [h1, if_true, Int.ediv_one]
  split <;> omega
theorem applied_upto {sl : Addr} {b n : Nat} {u : Tok} {Q : Int × Int × Nat → Shared → Prop} (hs : s.heap.IsSliceOf sl .none (.int b u) .none) (hb : b ≤ n) (h : Q (0, 1, b) s) :
    wpAny (model prog w) A (Builtin.Slice.sliceApplied (.ref sl) (pure (n : Int))) Q E s := by
  obtain ⟨os, hos, hcs, hds⟩ := id hs
  unfold Builtin.Slice.sliceApplied Builtin.Slice.sliceFields
  refine wpAny_bind (wpAny_bind (wpAny_field hos hds (x := .none) rfl (wpAny_bind (wpAny_field hos hds (x := .int b u) rfl (wpAny_bind (wpAny_field hos hds (x := .none) rfl (wpAny_pure ?_)))))))
  refine wpAny_bind (slicePart_none ?_)
  show wpAny _ _ (if ((1 : Int) == 0) = true then _ else _) _ _ s
  rw [if_neg (by decide)]
  refine wpAny_bind (slicePart_none (wpAny_bind (slicePart_int (wpAny_bind (wpAny_pure ?_)))))
  show wpAny _ _ (match Builtin.Slice.sliceAdjust none (some (b : Int)) 1 (n : Int) with | (lo, hi) => pure (lo, (1 : Int), Builtin.Slice.slicePlaces lo hi 1)) _ _ s
  rw [adjust_upto b n hb]
  show wpAny _ _ (pure ((0 : Int), (1 : Int), Builtin.Slice.slicePlaces 0 (b : Int) 1)) _ _ s
  rw [places_upto b]
  exact wpAny_pure h
theorem getItem_upto {t sl : Addr} {items : Array Value} {b : Nat} {u : Tok} {Q : Value → Shared → Prop} (ht : IsTup s.heap t items) (hs : s.heap.IsSliceOf sl .none (.int b u) .none) (hb : b ≤ items.size)
    (h1 : Q (.ref t) s) (h2 : ∀ its' : Array Value, its'.size ≤ items.size → Q (.ref s.heap.objs.size) { s with heap := s.heap.push { cls := .type "tuple", data := .seq its' } })
    (hsz : items.size ≤ sizeLine) : wpAny (model prog w) A (getItem (.ref t) (.ref sl)) Q E s := by
  obtain ⟨os, hos, hcs, hds⟩ := id hs
  have hTs : s.TypeIs (.ref sl) "slice" := ⟨os, hos, hcs⟩
  unfold getItem
  try with_reducible refine wpAny_holding ?_
  first | refine wpAny_bind (wpAny_pure ?_) | skip
  refine wpAny_bind (wpAny_sequenceKey ht.typeIs (by decide) ?_)
  refine wpAny_bind (wpAny_callSpecial?_slot (name := PySem.Str.ofString "__getitem__") ht.typeIs slot_tuple_getitem
    (wpAny_call_entry slot_tuple_getitem ht.typeIs entry_tuple_getitem ?_ (args_tuple_getitem _ _)))
  show wpAny _ _ (Builtin.Tuple.tupleItemsOf (.ref t) >>= _) _ _ s
  refine wpAny_bind (tupleItemsOf_ ht ?_)
  refine wpAny_bind (wpAny_typeOf hTs ?_)
  rw [if_pos (by decide)]
  refine wpAny_bind (applied_upto hs hb ?_)
  show wpAny _ _ (if ((0 : Int) == 0 && (1 : Int) == 1 && b == items.size) = true then _ else _) _ _ s
  have hsl : (((List.range b).filterMap fun (k : Nat) => items[((0 : Int) + (k : Int) * 1).toNat]?).toArray).size ≤ items.size := by
    rw [List.size_toArray]
    refine Nat.le_trans (List.length_filterMap_le _ _) ?_
    rw [List.length_range]; exact hb
  by_cases hw : b = items.size
  · rw [if_pos (by simp [hw])]
    show wpAny _ _ (Builtin.Tuple.tupleIsExact (.ref t) >>= _) _ _ s
    unfold Builtin.Tuple.tupleIsExact
    refine wpAny_bind (wpAny_bind (wpAny_typeOf ht.typeIs (wpAny_pure ?_)))
    rw [if_pos (by decide)]
    refine wpAny_bind (wpAny_rule ?_)
    first
      | exact wpAny_bind (wpAny_pure ⟨_, rfl, wpAny_pure h1⟩)
      | exact wpAny_pure ⟨_, rfl, wpAny_pure h1⟩
      | exact wpAny_bind (wpAny_pure (wpAny_pure ⟨_, rfl, wpAny_pure h1⟩))
      | exact wpAny_bind (wpAny_bind (wpAny_pure (wpAny_pure ⟨_, rfl, wpAny_pure h1⟩)))
  · rw [if_neg (by simp [hw])]
    first
      | exact wpAny_bind (m := Builtin.Tuple.tupleExact _) (wpAny_newObj_type (wpAny_pure ⟨_, rfl, wpAny_pure (h2 _ hsl)⟩) (Nat.le_trans hsl hsz))
      | exact wpAny_bind (m := Builtin.Tuple.tupleExact _) (wpAny_newObj_type (wpAny_bind (wpAny_pure (wpAny_pure ⟨_, rfl, wpAny_pure (h2 _ hsl)⟩))) (Nat.le_trans hsl hsz))
      | exact wpAny_bind (wpAny_bind (m := Builtin.Tuple.tupleExact _) (wpAny_newObj_type (wpAny_pure (wpAny_pure ⟨_, rfl, wpAny_pure (h2 _ hsl)⟩)) (Nat.le_trans hsl hsz)))
      | exact wpAny_bind (wpAny_bind (m := Builtin.Tuple.tupleExact _) (wpAny_newObj_type (wpAny_pure ⟨_, rfl, wpAny_pure (h2 _ hsl)⟩) (Nat.le_trans hsl hsz)))
/-- a made tuple cut at its end: the whole or a new one; what comes back stands in the tuple's place -/
theorem slice_upto {value slice : Expr} {t : Addr} {items : Array Value} {k : Nat} {j : Int} {u : Tok} {rest : List (Addr × Obj)} {Q : Value → Shared → Prop}
    (F : Fr h₀ L s.heap m) (N : News h₀ L s.heap ((t, tupO items k) :: rest)) (hl : ∀ p ∈ rest, p.1 < t) (h0 : 0 ≤ j) (hj : j ≤ items.size)
    (h : ∀ r its' k' h', Fr h₀ L h' m → News h₀ L h' ((r, tupO its' k') :: rest) → its'.size ≤ items.size → (∀ p ∈ rest, p.1 < r) → Q (.ref r) { s with heap := h' })
    (hs : subscripted slice false (.ref t) (.ref s.heap.objs.size) = operate [.ref s.heap.objs.size, .ref t] (getItem (.ref t) (.ref s.heap.objs.size)) := by with_unfolding_all rfl)
    (hg : ∀ r, letTemporaryGo value (.ref t) r = pure () := by intro _; with_unfolding_all rfl)
    (hsz : items.size ≤ sizeLine := by size_fits) :
    wpAny (model prog w) A (subscriptTail value slice (.ref t) (.ref s.heap.objs.size)) Q E { s with heap := s.heap.push { cls := .type "slice", data := .fields #[.none, .int j u, .none] } } := by
  obtain ⟨b, rfl⟩ : ∃ b : Nat, j = (b : Int) := ⟨j.toNat, by omega⟩
  have ht : IsTup s.heap t items := ⟨_, (N _ (.head _)).1, rfl, k, rfl⟩
  have ht' : IsTup (s.heap.push { cls := .type "slice", data := .fields #[.none, .int b u, .none] }) t items := ht.keeps fun _ _ e => Heap.get?_push_of_some _ e
  have NG : News h₀ L (s.heap.push { cls := .type "slice", data := .fields #[.none, .int b u, .none] }) ((t, tupO items k) :: rest) := N.grown fun _ _ e => Heap.get?_push_of_some _ e
  refine subscriptTail_ops (s := { s with heap := s.heap.push { cls := .type "slice", data := .fields #[.none, .int b u, .none] } }) ht'.typeIs slot_tuple_getitem.lookup
    (getItem_upto ht' (Heap.IsSliceOf.new ..) (by omega) (h t items k _ (F.push _) NG (Nat.le_refl _) hl) (fun its' hi => ?_) hsz) hs hg
  have N1 := News.push (F.push { cls := .type "slice", data := .fields #[.none, .int b u, .none] }) NG { cls := .type "tuple", data := .seq its' }
  rw [Heap.size_push] at N1
  show Q (.ref (s.heap.push _).objs.size) _
  rw [Heap.size_push]
  refine h _ its' 0 _ ((F.push _).push _) (fun p hp => N1 p ?_) hi fun p hp => Nat.lt_succ_of_lt (Heap.lt_size (N p (.tail _ hp)).1)
  rcases List.mem_cons.mp hp with rfl | hp
  · exact .head _
  · exact .tail _ (.tail _ hp)
end
end TFL
-- FQ
section TFQ
theorem entries_eq (ns : List Int) : entries ns = ((ns.countP fun x => x != 0 : Nat) : Int) := by
  unfold entries
  rw [List.countP_eq_length_filter]
theorem left_entries {k : Int} (h1 : 1 ≤ k) (h4 : k ≤ 4) : ∀ (ns : List Int), entries (left ns k) = entries ns - cnt ns k
  | [] => rfl
  | n :: ns => by
    have ih := left_entries h1 h4 ns
    rw [entries_eq] at ih ⊢
    rw [entries_eq] at ih ⊢
    rw [cnt_cons]
    unfold left at ih ⊢
    rw [List.map_cons, List.countP_cons, List.countP_cons]
    by_cases hk : n + k = 0
    · have e1 : n ≠ 0 := by omega
      have e2 : -1048576 < n ∧ n < 0 ∧ -n = k := by omega
      simp only [hk, if_true, e2]
      simp only [bne_self_eq_false, Bool.false_eq_true, if_false, show (n != 0) = true from bne_iff_ne.mpr e1, and_self, if_true]
      omega
    · have e2 : ¬ (-1048576 < n ∧ n < 0 ∧ -n = k) := by omega
      simp only [hk, if_false, e2]
      omega
theorem cnt_cell {ns : List Int} {k : Int} (hc : ∀ x ∈ ns, Cell x) (h : 0 < cnt ns k) : 1 ≤ k ∧ k ≤ 4 := by
  unfold cnt at h
  have h' : 0 < ns.countP fun n => decide (-1048576 < n ∧ n < 0 ∧ -n = k) := by omega
  obtain ⟨n, hn, q⟩ := List.countP_pos_iff.mp h'
  have q := of_decide_eq_true q
  have hx := hc n hn
  unfold Cell at hx
  simp only [List.mem_cons, List.not_mem_nil, or_false] at hx
  omega
/-- both ways of reckoning the default tell the same -/
theorem best_agrees {ns : List Int} {b : Int} (hc : ∀ x ∈ ns, Cell x) (h : IsBest ns b) : b = lawBest ns ∧ 0 ≤ b ∧ b ≤ 4 := by
  rcases h with ⟨hp, rfl⟩ | ⟨hp, ks, hperm, hB⟩
  · exact ⟨(if_pos hp).symm, by omega, by omega⟩
  · have hmem : ∀ k, k ∈ ks ↔ 0 < cnt ns k := fun k => by
      rw [hperm.mem_iff, has_key, has_fold]
      simp [kdfHas]
    have e : lawBest ns = (([1, 2, 3, 4] : List Int).foldl (stepB ns) (0, entries ns)).1 := if_neg hp
    have r1 := left_entries (k := 1) (by omega) (by omega) ns
    have r2 := left_entries (k := 2) (by omega) (by omega) ns
    have r3 := left_entries (k := 3) (by omega) (by omega) ns
    have r4 := left_entries (k := 4) (by omega) (by omega) ns
    have p1 := cnt_nonneg ns 1
    have p2 := cnt_nonneg ns 2
    have p3 := cnt_nonneg ns 3
    have p4 := cnt_nonneg ns 4
    rw [e]
    simp only [List.foldl_cons, List.foldl_nil, stepB, r1, r2, r3, r4]
    rcases hB with ⟨rfl, rfl⟩ | ⟨h1, h2, h3⟩
    · have q1 : ¬ 0 < cnt ns 1 := fun h => by have := (hmem 1).mpr h; simp at this
      have q2 : ¬ 0 < cnt ns 2 := fun h => by have := (hmem 2).mpr h; simp at this
      have q3 : ¬ 0 < cnt ns 3 := fun h => by have := (hmem 3).mpr h; simp at this
      have q4 : ¬ 0 < cnt ns 4 := fun h => by have := (hmem 4).mpr h; simp at this
      refine ⟨?_, by omega, by omega⟩
      clear hmem hperm e r1 r2 r3 r4 hc hp
      generalize cnt ns 1 = f1 at *; generalize cnt ns 2 = f2 at *; generalize cnt ns 3 = f3 at *; generalize cnt ns 4 = f4 at *; generalize entries ns = E at *
      (repeat' split) <;> (first | rfl | (exfalso; simp only [] at *; omega))
    · have hb := cnt_cell hc ((hmem b).mp h1)
      have hbp := (hmem b).mp h1
      refine ⟨?_, by omega, by omega⟩
      have m : ∀ k, cnt ns k ≤ cnt ns b := fun k => by
        by_cases hk : 0 < cnt ns k
        · exact h2 k ((hmem k).mpr hk)
        · omega
      have l : ∀ k, k < b → cnt ns k < cnt ns b := fun k hlt => by
        by_cases hk : 0 < cnt ns k
        · exact h3 k ((hmem k).mpr hk) hlt
        · omega
      have m1 := m 1
      have m2 := m 2
      have m3 := m 3
      have m4 := m 4
      have l1 := l 1
      have l2 := l 2
      have l3 := l 3
      have hb' : b = 1 ∨ b = 2 ∨ b = 3 ∨ b = 4 := by omega
      rcases hb' with rfl | rfl | rfl | rfl
      all_goals (clear hmem hperm h1 h2 h3 e m l r1 r2 r3 r4 hc hp; generalize cnt ns 1 = f1 at *; generalize cnt ns 2 = f2 at *; generalize cnt ns 3 = f3 at *; generalize cnt ns 4 = f4 at *; generalize entries ns = E at *)
      all_goals ((repeat' split) <;> (first | rfl | (exfalso; simp only [] at *; omega)))
end TFQ
-- FN
section TFN
section
variable {prog : Program} {w : World} {A A₀ : Around} {s : Shared} {base h₀ : Heap} {outer : List Env} {L : Addr} {m : PySem.Str → Option Value} {env : Env} {K : Frag} {E Q : Value → Shared → Prop}
  {name qual : PySem.Str} {params : Arguments} {body : List Stmt} {scope : Scope} {dV kV doc pm cdv ct oc : Value} {an od : Option Addr} {osl : Array (Option Value)} {f C cc : Addr} {pos : List Value} {kw : List (PySem.Str × Value)} {binds : List (PySem.Str × Value)}
  {p : Program} {loose : List PySem.Str} {mean : ExcName → Option Value} {mg mb : PySem.Str → Option Value}
abbrev inM (C : Addr) (pos : List Value) (kw : List (PySem.Str × Value)) (A : Around) : Around := A.under (.builtin "type.__call__" ⟨.ref C :: pos, kw⟩)
/-- a class called upon the whole heap at hand, up to its __init__ -/
theorem exNew (s : Shared) : ∃ x : Addr, x = s.heap.objs.size + 1 := ⟨_, rfl⟩
theorem made (x : Addr) (hx : x = s.heap.objs.size + 1) (F : Fr h₀ L s.heap m) (X₀ : K.In h₀) (hm : makesIn K C = true) (hi : findIn K (.ref C) "__init__" = some (some (.ref f))) (hf : isFn K (.ref f) = true)
    (h : ∀ dx h', News s.heap L h' [(x, instObj C dx), (dx, dictOf [] 0)] → s.heap.StaysIn h' → s.heap.objs.size ≤ dx → dx < x → x < h'.objs.size →
      codeAny (model prog w) (inM C pos kw A) (.call (.ref f) ⟨.ref x :: pos, kw⟩) (InitBack x fun r s' => match r with | .ok (.ret v) => Q v s' | .ok _ => False | .error e => E e s') { s with heap := h' }) :
    wpAny (model prog w) A (call (.ref C) pos kw) Q E s := by
  subst hx
  obtain ⟨hh, g, d, t, os⟩ := s
  have X := X₀.keeps F.keep
  have st : ∀ b o, hh.get? b = some o → ((hh.push emptyDict).push (instObj C hh.objs.size)).get? b = some o := fun b o e => Heap.get?_push_of_some _ (Heap.get?_push_of_some _ e)
  obtain ⟨oL, es, ep, hL, r⟩ := F.ns
  have hLt : L < hh.objs.size := Heap.lt_size hL
  have no : ∀ a, hh.objs.size ≤ a → hh.get? a = none := fun a ha => by
    cases q : hh.get? a with
    | none => rfl
    | some o => exact absurd (Heap.lt_size q) (Nat.not_lt.mpr ha)
  refine wpAny_call (make_core (makes_of X hm) (looks_findIn X hi) (fun self => bind_fn X self (beq_iff_eq.mp hf)) (.inl rfl) (h hh.objs.size _ (fun p hp => ?_) st (Nat.le_refl _) (Nat.lt_succ_self _) (by rw [Heap.size_push, Heap.size_push]; exact Nat.lt_succ_self _)))
  rcases List.mem_cons.mp hp with rfl | hp
  · refine ⟨?_, Nat.ne_of_gt (Nat.lt_succ_of_lt hLt), no _ (Nat.le_succ _)⟩
    show ((hh.push emptyDict).push (instObj C hh.objs.size)).get? (hh.objs.size + 1) = some (instObj C hh.objs.size)
    heap_get
  · rcases List.mem_cons.mp hp with rfl | hp
    · refine ⟨?_, Nat.ne_of_gt hLt, no _ (Nat.le_refl _)⟩
      show ((hh.push emptyDict).push (instObj C hh.objs.size)).get? hh.objs.size = some emptyDict
      heap_get
    · cases hp
theorem enterI (x : Addr) (hx : x = s.heap.objs.size + 1) (B : Below A₀ base outer h₀) (F : Fr h₀ L s.heap m) (X₀ : K.In h₀) (T : Top p loose mean mg mb h₀) (hA : (inM C pos kw A).frames = some (env :: outer)) (hf : env.frame = some L) (hke : env.scope.kind = .function)
    (hm : makesIn K C = true) (hi : findIn K (.ref C) "__init__" = some (some (.ref f))) (hfn : isFn K (.ref f) = true)
    (ho : K.lookup f = some ⟨oc, od, .func (fnOf name qual params body scope dV kV doc pm an cdv ct), osl⟩) (hcd : codeIn K cdv qual = true) (hroom : (inM C pos kw A).depth < recursionLimit)
    (hbind : ∀ h', K.In h' → BindsTo { s with heap := h' } (fnOf name qual params body scope dV kV doc pm an cdv ct) ⟨.ref x :: pos, kw⟩ binds) (hloc : ∀ y ∈ binds, scope.names.lookup y.1 = some .local)
    (h : ∀ dx L' h₁ tk, Fr s.heap L' h₁ (fun y => binds.reverse.lookup y) → News s.heap L' h₁ [(x, instObj C dx), (dx, dictOf [] 0)] → dx < x → x < L' → Below (inM C pos kw A) base (env :: outer) s.heap → K.In s.heap → Top p loose mean mg mb s.heap →
      wpAny (model prog w) ((inM C pos kw A).deeper (envOf qual scope L' f cdv)) (execs body (envOf qual scope L' f cdv))
        (fun fl s' => (match fl with | .ret v => v | _ => .none) = .none ∧ Q (.ref x) s')
        (fun e s' => wpAny (model prog w) ((inM C pos kw A).deeper (envOf qual scope L' f cdv)) (leaving (envOf qual scope L' f cdv) e) (fun _ s'' => E e s'') (fun e' s'' => E e' s'') s')
        { s with heap := h₁, toks := tk })
    (hco : scope.isCoroutine = false) (hgen : scope.isGenerator = false) (hk : scope.kind = .function) (hcell : ∀ x ∈ scope.names, x.2 ≠ .cell) : wpAny (model prog w) A (call (.ref C) pos kw) Q E s := by
  refine made x hx F X₀ hm hi hfn fun dx h' N st l0 l1 l2 => ?_
  refine codeAny_call_def (fd := fnOf name qual params body scope dV kV doc pm an cdv ct) (body := body) (binds := binds) hroom (((X₀.keeps F.keep).keeps st) _ _ ho) rfl ((T.nolimit.keeps F.keep).keeps st) (codeRec_of ((X₀.keeps F.keep).keeps st) hcd) rfl (hbind h' ((X₀.keeps F.keep).keeps st)) hcell hloc (fun h₁ hns hk₁ => ?_) hco hgen hk
  have B₁ := pushX B F hf hke
  have key := h dx h'.objs.size h₁ (s.toks + binds.length) ⟨hns, fun b o e => hk₁ b o (st b o e), Nat.le_of_lt (Nat.lt_of_le_of_lt l0 (Nat.lt_trans l1 l2))⟩ (fun p hp => ⟨hk₁ _ _ (N p hp).1, Nat.ne_of_lt (Heap.lt_size (N p hp).1), (N p hp).2.2⟩) l1 l2 ⟨hA, B₁.stays, B₁.frames⟩ (X₀.keeps F.keep) (T.keeps F.keep)
  exact key
theorem enterIS (x : Addr) (hx : x = s.heap.objs.size + 1) (B : Below A₀ base outer h₀) (F : Fr h₀ L s.heap m) (X₀ : K.In h₀) (T : Top p loose mean mg mb h₀) (hA : (inM C pos kw A).frames = some (env :: outer)) (hf : env.frame = some L) (hke : env.scope.kind = .function)
    (hm : makesIn K C = true) (hi : findIn K (.ref C) "__init__" = some (some (.ref f))) (hfn : isFn K (.ref f) = true)
    (ho : K.lookup f = some ⟨oc, od, .func (ksFn name qual params body scope dV kV doc pm an cdv ct cc), osl⟩) (hcd : codeIn K cdv qual = true) (hroom : (inM C pos kw A).depth < recursionLimit)
    (hbind : ∀ h', K.In h' → BindsTo { s with heap := h' } (ksFn name qual params body scope dV kV doc pm an cdv ct cc) ⟨.ref x :: pos, kw⟩ binds) (hloc : ∀ y ∈ binds, scope.names.lookup y.1 = some .local)
    (h : ∀ dx L' h₁ tk, Fr s.heap L' h₁ (fun y => binds.reverse.lookup y) → News s.heap L' h₁ [(x, instObj C dx), (dx, dictOf [] 0)] → dx < x → x < L' → Below (inM C pos kw A) base (env :: outer) s.heap → K.In s.heap → Top p loose mean mg mb s.heap →
      _root_.PySem.wpAt (model prog w) ((inM C pos kw A).deeper (ksEnv qual scope L' f cdv cc)) (.func body (ksEnv qual scope L' f cdv cc)) (execs body (ksEnv qual scope L' f cdv cc))
        (fun fl s' => (match fl with | .ret v => v | _ => .none) = .none ∧ Q (.ref x) s')
        (fun e s' => wpAny (model prog w) ((inM C pos kw A).deeper (ksEnv qual scope L' f cdv cc)) (leaving (ksEnv qual scope L' f cdv cc) e) (fun _ s'' => E e s'') (fun e' s'' => E e' s'') s')
        { s with heap := h₁, toks := tk })
    (hcell : ∀ x ∈ scope.names, x.2 ≠ .cell) (hco : scope.isCoroutine = false) (hgen : scope.isGenerator = false) (hk : scope.kind = .function) : wpAny (model prog w) A (call (.ref C) pos kw) Q E s := by
  refine made x hx F X₀ hm hi hfn fun dx h' N st l0 l1 l2 => ?_
  refine ks_codeAny_call_defAt (fd := ksFn name qual params body scope dV kV doc pm an cdv ct cc) (body := body) (binds := binds) hroom (((X₀.keeps F.keep).keeps st) _ _ ho) rfl ((T.nolimit.keeps F.keep).keeps st) (codeRec_of ((X₀.keeps F.keep).keeps st) hcd) rfl (hbind h' ((X₀.keeps F.keep).keeps st)) hcell hloc (fun h₁ hns hk₁ => ?_) hco hgen hk
  have B₁ := pushX B F hf hke
  have key := h dx h'.objs.size h₁ (s.toks + binds.length) ⟨hns, fun b o e => hk₁ b o (st b o e), Nat.le_of_lt (Nat.lt_of_le_of_lt l0 (Nat.lt_trans l1 l2))⟩ (fun p hp => ⟨hk₁ _ _ (N p hp).1, Nat.ne_of_lt (Heap.lt_size (N p hp).1), (N p hp).2.2⟩) l1 l2 ⟨hA, B₁.stays, B₁.frames⟩ (X₀.keeps F.keep) (T.keeps F.keep)
  exact key
end
end TFN
-- FM
section TFM
section
variable {prog : Program} {w : World} {A : Around} {s : Shared} {h₀ : Heap} {L : Addr} {m : PySem.Str → Option Value} {env : Env}
/-- a comprehension's turns by an invariant -/
theorem rest_inv {elt : Expr} {x : PySem.Str} {scope : Scope} {cl : List (PySem.Str × Addr)} {S : List (Addr × Obj) → Prop} {P : Nat → Value → Prop} {Fin : List Value → List (Addr × Obj) → Prop} (J : List Value → List (Addr × Obj) → Prop)
    (step : ∀ i v I oI C oC D m₂ h tk ys news (E' : Value → Shared → Prop), J ys news → P i v → LCg.NsObj oC m₂ → m₂ x = some v → Fr h₀ L h m → News h₀ L h ((I, oI) :: (C, oC) :: (D, LCg.lst ys) :: news) → LCg.Off3 I C D news → ((@Ne Nat I C) ∧ (@Ne Nat I D) ∧ (@Ne Nat C D)) →
      wpAny (model prog w) A (eval elt (compEnvC scope cl C env)) (LCg.CompEnd h₀ L m { s with heap := h, toks := tk } I oI C oC D (LCg.lst ys) S (fun y news' => J (ys ++ [y]) news')) E' { s with heap := h, toks := tk }) :
    ∀ (k i : Nat) (ys : List Value) (news : List (Addr × Obj)), J ys news → (∀ ys' news', ys'.length = ys.length + k → J ys' news' → Fin ys' news') → LCg.CompRest prog w A h₀ L m env elt x scope cl s S P Fin k i ys news
  | 0, i, ys, news, hJ, fin => LCg.CompRest.zero (fin _ _ rfl hJ)
  | k + 1, i, ys, news, hJ, fin => LCg.CompRest.succ fun v I oI C oC D m₂ h tk E' hP hC hx F N off ne =>
    wpAny_mono (step i v I oI C oC D m₂ h tk ys news E' hJ hP hC hx F N off ne) (fun y s₂ ⟨h', tk', news', e, F', N', off', hS', hJ'⟩ =>
      ⟨h', tk', news', e, F', N', off', hS', rest_inv J step k (i + 1) _ _ hJ' fun ys' nw' hl hj => fin _ _ (by rw [hl, List.length_append, List.length_singleton]; omega) hj⟩) fun _ _ e => e
end
end TFM
-- FC
section TFC
section
variable {prog : Program} {w : World} {A : Around} {E : Value → Shared → Prop} {s : Shared} {h₀ : Heap} {L : Addr} {m : PySem.Str → Option Value} {env : Env}
def olds (ls : List Nat) : List (Addr × Obj) := ls.map fun l => (l, listOf #[] 0)
def JL (base : List (Addr × Obj)) (ys : List Value) (news : List (Addr × Obj)) : Prop :=
  ∃ ls : List Nat, ys = ls.map Value.ref ∧ news = olds ls.reverse ++ base ∧ ls.Pairwise (· < ·) ∧ ∀ l ∈ ls, ∀ p ∈ base, @LT.lt Nat _ p.1 l
theorem nil_eval {p : Pos} {env : Env} {Q : Value → Shared → Prop} {news : List (Addr × Obj)} (F : Fr h₀ L s.heap m) (N : News h₀ L s.heap news)
    (h : ∀ l h', Fr h₀ L h' m → News h₀ L h' ((l, listOf #[] 0) :: news) → (∀ p ∈ news, p.1 < l) → Q (.ref l) { s with heap := h' }) : wpAny (model prog w) A (eval (.List [] p) env) Q E s := by
  refine List_ ?_
  have hl : ([] : List Value).length ≤ sizeLine := by size_fits
  first
    | exact wpAny_pure (newList_K (vs := []) F N h hl)
    | exact newList_K (vs := []) F N h hl
    | exact wpAny_bind (wpAny_pure (newList_K (vs := []) F N h hl))
    | exact wpAny_bind (newList_K (vs := []) F N h hl)
theorem off3_of {I C D : Addr} {l : List (Addr × Obj)} (h : ∀ p ∈ l, p.1 ≠ I ∧ p.1 ≠ C ∧ p.1 ≠ D) : LCg.Off3 I C D l := LCg.Off3.of h
/-- a comprehension that makes an empty list a turn -/
theorem src_lists {p : Pos} {x : PySem.Str} {scope : Scope} {cl : List (PySem.Str × Addr)} {ax : Addr} {its : Array Value} {news : List (Addr × Obj)} {Q : Value → Shared → Prop} (hh : A.handled = none) (F : Fr h₀ L s.heap m) (N : News h₀ L s.heap news) (hl : h₀.IsList ax its) (hsz : its.size ≤ 64)
    (h : ∀ D h tk (ls : List Nat), ls.length = its.size → ls.Pairwise (· < ·) → (∀ l ∈ ls, ∀ p ∈ news, @LT.lt Nat _ p.1 l) → (∀ l ∈ ls, ¬ @Eq Nat l D) → (∀ p ∈ news, ¬ p.1 = D) → Fr h₀ L h m → News h₀ L h ((D, LCg.lst (ls.map Value.ref)) :: (olds ls.reverse ++ news)) → Q (.ref D) { s with heap := h, toks := tk }) :
    LCg.CompSrc prog w A h₀ L m env (.List [] p) x scope cl (fun s₂ => LCg.FinE h₀ L m s₂ Q) (.ref ax) s := by
  refine LCg.CompSrc.base hh F N hl (Nat.le_trans hsz (by decide)) fun g => ?_
  refine rest_inv (JL news) ?_ _ _ _ _ ⟨[], rfl, rfl, .nil, by intro l hl; cases hl⟩ ?_
  · rintro i v I oI C oC D m₂ h tk ys nw E' ⟨ls, rfl, rfl, hp, hb⟩ hP hC hx F' N' off ne
    refine nil_eval F' N' fun l h' F₂ N₂ l1 => ?_
    have hI := l1 _ (.head _)
    have hCl := l1 _ (.tail _ (.head _))
    have hDl := l1 _ (.tail _ (.tail _ (.head _)))
    have hr : ∀ p ∈ olds ls.reverse ++ news, p.1 < l := fun p hp => l1 p (.tail _ (.tail _ (.tail _ hp)))
    refine ⟨h', tk, (l, listOf #[] 0) :: (olds ls.reverse ++ news), rfl, F₂, fun p hp => ?_, ⟨⟨Nat.ne_of_gt hI, Nat.ne_of_gt hCl, Nat.ne_of_gt hDl⟩, off⟩, .inl hl, ls ++ [l], by simp, ?_, ?_, ?_⟩
    · simp only [List.mem_cons] at hp
      rcases hp with rfl | rfl | rfl | rfl | hp
      · exact N₂ _ (.tail _ (.head _))
      · exact N₂ _ (.tail _ (.tail _ (.head _)))
      · exact N₂ _ (.tail _ (.tail _ (.tail _ (.head _))))
      · exact N₂ _ (.head _)
      · exact N₂ _ (.tail _ (.tail _ (.tail _ (.tail _ hp))))
    · simp [olds]
    · refine List.pairwise_append.mpr ⟨hp, List.pairwise_singleton _ _, fun a ha b hb' => ?_⟩
      rw [List.mem_singleton.mp hb']
      exact hr (a, listOf #[] 0) (List.mem_append.mpr (.inl (List.mem_map.mpr ⟨a, List.mem_reverse.mpr ha, rfl⟩)))
    · intro a ha q hq
      rcases List.mem_append.mp ha with ha | ha
      · exact hb a ha q hq
      · rw [List.mem_singleton.mp ha]
        exact hr q (List.mem_append.mpr (.inr hq))
  · rintro ys' nw' hlen ⟨ls, rfl, rfl, hp, hb⟩ D h' tk F' N' o1
    have off1 : ∀ (r : List (Addr × Obj)), LCg.Off1 D r → ∀ p ∈ r, p.1 ≠ D := by
      intro r
      induction r with
      | nil => intro _ p hp; cases hp
      | cons q r ih =>
        intro hr p hp
        rcases List.mem_cons.mp hp with rfl | hp
        · exact hr.1
        · exact ih hr.2 p hp
    have o1 := off1 _ o1
    exact h D h' tk ls (by simpa using hlen) hp hb (fun l hl => o1 (l, listOf #[] 0) (List.mem_append.mpr (.inl (List.mem_map.mpr ⟨l, List.mem_reverse.mpr hl, rfl⟩)))) (fun p hp => o1 p (List.mem_append.mpr (.inr hp))) F' N'
theorem src_two {p : Pos} {x : PySem.Str} {scope : Scope} {cl : List (PySem.Str × Addr)} {ax : Addr} {its : Array Value} {news : List (Addr × Obj)} {Q : Value → Shared → Prop} (hh : A.handled = none) (F : Fr h₀ L s.heap m) (N : News h₀ L s.heap news) (hl : h₀.IsList ax its) (hsz : its.size = 11)
    (h : ∀ D h tk (ys : List Value) (l9 l10 : Addr), ys.toArray[(9 : Int).toNat]? = some (.ref l9) → ys.toArray[(10 : Int).toNat]? = some (.ref l10) → ys.length = 11 → (@LT.lt Nat _ l9 l10) → (∀ p ∈ news, p.1 < l9) → ¬ @Eq Nat l9 D → ¬ @Eq Nat l10 D → AllNe D news → Fr h₀ L h m → News h₀ L h ((D, LCg.lst ys) :: (l9, listOf #[] 0) :: (l10, listOf #[] 0) :: news) → Q (.ref D) { s with heap := h, toks := tk }) :
    LCg.CompSrc prog w A h₀ L m env (.List [] p) x scope cl (fun s₂ => LCg.FinE h₀ L m s₂ Q) (.ref ax) s := by
  refine src_lists hh F N hl (by rw [hsz]; decide) fun D h' tk ls hlen hp hb hD hn F' N' => ?_
  rw [hsz] at hlen
  have h9 : ls[9]'(by omega) ∈ ls := List.getElem_mem _
  have h10 : ls[10]'(by omega) ∈ ls := List.getElem_mem _
  refine h D h' tk (ls.map Value.ref) (ls[9]'(by omega)) (ls[10]'(by omega)) ?_ ?_ (by simpa using hlen) (List.pairwise_iff_getElem.mp hp 9 10 (by omega) (by omega) (by omega)) (fun p hp' => hb _ h9 p hp') (hD _ h9) (hD _ h10) (allNe_of hn) F' fun p hp' => ?_
  · simp [hlen]
  · simp [hlen]
  · have mem : ∀ l ∈ ls, (l, listOf #[] 0) ∈ olds ls.reverse := fun l hl => List.mem_map.mpr ⟨l, List.mem_reverse.mpr hl, rfl⟩
    rcases List.mem_cons.mp hp' with rfl | hp'
    · exact N' _ (.head _)
    · rcases List.mem_cons.mp hp' with rfl | hp'
      · exact N' _ (.tail _ (List.mem_append.mpr (.inl (mem _ h9))))
      · rcases List.mem_cons.mp hp' with rfl | hp'
        · exact N' _ (.tail _ (List.mem_append.mpr (.inl (mem _ h10))))
        · exact N' _ (.tail _ (List.mem_append.mpr (.inr hp')))
end
section
variable {prog : Program} {w : World} {A : Around} {E : Value → Shared → Prop} {s : Shared} {h₀ : Heap} {env : Env} {x : PySem.Str} {body : List Stmt} {Q : Flow → Shared → Prop}
/-- a loop over a list that stood before -/
theorem iter_bl {l : Addr} {items : Array Value} {m₀ : PySem.Str → Option Value} {news : List (Addr × Obj)} (J : Nat → (PySem.Str → Option Value) → List (Addr × Obj) → Prop)
    (hh : A.handled = none) (hl : h₀.IsList l items) (F : Fr h₀ env.locals s.heap m₀) (N : News h₀ env.locals s.heap news) (hj : J 0 m₀ news)
    (turn : ∀ i v m₁ nx h tk own, items[i]? = some v → i < items.size → nx.map (·.1) = news.map (·.1) → OwnOff own (news.map (·.1)) → J i m₁ nx → Fr h₀ env.locals h (fun y => if y = x then some v else m₁ y) → News h₀ env.locals h (nx ++ own) →
      wpAny (model prog w) A (execs body env) (InvPostN h₀ env.locals (J (i + 1)) own (news.map (·.1)) { s with heap := h, toks := tk } Q) E { s with heap := h, toks := tk })
    (done : ∀ m₁ nx h tk, J items.size m₁ nx → Fr h₀ env.locals h m₁ → News h₀ env.locals h nx → Q .next { s with heap := h, toks := tk }) :
    wpAny (model prog w) A (pyIter (.ref l)) (fun it s₂ => LoopAtV prog w A h₀ env x body Q E it s₂) E s := by
  obtain ⟨ol, hol, rl⟩ := id hl
  have ht : s.heap.IsList l items := ⟨ol, F.keep _ _ hol, rl⟩
  have hI : l ≠ s.heap.objs.size := Nat.ne_of_lt (Heap.lt_size (F.keep _ _ hol))
  refine wpAny_pyIter_list ht ?_
  have W := Walks.list (prog := prog) (w := w) hh s.heap.objs.size l hI items
  refine loop_invN J W ?_ ?_ ?_ ?_ ⟨⟨_, Heap.get?_push_size _ rfl, rfl, rfl⟩, ht.at fun o e => Heap.get?_push_of_some _ e⟩ (F.push _) (fun p hp => ⟨Heap.get?_push_of_some _ (N p hp).1, (N p hp).2⟩) hj ?_ ?_
  · intro hm
    rcases List.mem_cons.mp hm with e | hm
    · exact absurd F.ns.lt (e ▸ Nat.lt_irrefl _)
    · have e := List.mem_singleton.mp hm
      have := Heap.get?_none_of_le F.above
      rw [e, hol] at this; cases this
  · intro b hb
    rw [List.mem_singleton.mp hb]
    exact next_is_new F
  · intro p hp hI'
    exact absurd (Heap.lt_size (N p hp).1) ((List.mem_singleton.mp hI') ▸ Nat.lt_irrefl _)
  · intro p hp hm
    rcases List.mem_cons.mp hm with e | hm
    · exact absurd (Heap.lt_size (N p hp).1) (e ▸ Nat.lt_irrefl _)
    · have e := List.mem_singleton.mp hm
      have := (N p hp).2.2
      rw [e, hol] at this; cases this
  · intro i v m₁ nx h tk own hi hv hadr hoff hJ F₁ N₁
    exact turn i v m₁ nx h tk own hv hi hadr hoff hJ F₁ N₁
  · exact done
/-- what stands while a grammar's rules are turned -/
def gramL (own off D : Addr) (oD : Obj) (l9 l10 : Addr) (rest : List (Addr × Obj)) (a b c e : Array Value) (na nb nc ne : Nat) : List (Addr × Obj) := (own, listOf a na) :: (off, listOf b nb) :: (D, oD) :: (l9, listOf c nc) :: (l10, listOf e ne) :: rest
def JG (own off D : Addr) (oD : Obj) (l9 l10 : Addr) (rest : List (Addr × Obj)) (m₀ : PySem.Str → Option Value) (x : PySem.Str) (i : Nat) (m : PySem.Str → Option Value) (nx : List (Addr × Obj)) : Prop :=
  (∃ a b c e na nb nc ne, nx = gramL own off D oD l9 l10 rest a b c e na nb nc ne ∧ a.size ≤ 3 * i ∧ b.size ≤ i ∧ c.size ≤ i ∧ e.size ≤ i) ∧ ∀ z, z ≠ x → m z = m₀ z
theorem iter_gram {l own off D l9 l10 : Addr} {oD : Obj} {rest : List (Addr × Obj)} {items : Array Value} {m₀ : PySem.Str → Option Value} (h5 : items.size = 5)
    (hh : A.handled = none) (hl : h₀.IsList l items) (F : Fr h₀ env.locals s.heap m₀) (N : News h₀ env.locals s.heap ((own, listOf #[] 0) :: (off, listOf #[] 0) :: (D, oD) :: (l9, listOf #[] 0) :: (l10, listOf #[] 0) :: rest))
    (turn : ∀ i v h tk ow a b c e na nb nc ne, items[i]? = some v → i < 5 → a.size ≤ 3 * i → b.size ≤ i → c.size ≤ i → e.size ≤ i → OwnOff ow (own :: off :: D :: l9 :: l10 :: rest.map (·.1)) → Fr h₀ env.locals h (fun y => if y = x then some v else m₀ y) → News h₀ env.locals h (((own, listOf a na) :: (off, listOf b nb) :: (D, oD) :: (l9, listOf c nc) :: (l10, listOf e ne) :: rest) ++ ow) →
      wpAny (model prog w) A (execs body env) (InvPostN h₀ env.locals (JG own off D oD l9 l10 rest m₀ x (i + 1)) ow (own :: off :: D :: l9 :: l10 :: rest.map (·.1)) { s with heap := h, toks := tk } Q) E { s with heap := h, toks := tk })
    (done : ∀ q h tk a b c e na nb nc ne, Fr h₀ env.locals h (fun y => if y = x then q else m₀ y) → News h₀ env.locals h ((own, listOf a na) :: (off, listOf b nb) :: (D, oD) :: (l9, listOf c nc) :: (l10, listOf e ne) :: rest) → a.size ≤ 15 → Q .next { s with heap := h, toks := tk }) :
    wpAny (model prog w) A (pyIter (.ref l)) (fun it s₂ => LoopAtV prog w A h₀ env x body Q E it s₂) E s := by
  refine iter_bl (JG own off D oD l9 l10 rest m₀ x) hh hl F N ⟨⟨#[], #[], #[], #[], 0, 0, 0, 0, rfl, by simp, by simp, by simp, by simp⟩, fun _ _ => rfl⟩ ?_ ?_
  · rintro i v m₁ nx h tk ow hv hi _ hoff ⟨⟨a, b, c, e, na, nb, nc, ne, rfl, ha, hb, hc, he⟩, hm⟩ F₁ N₁
    have hmm : (fun y => if y = x then some v else m₁ y) = fun y => if y = x then some v else m₀ y := by
      funext y; by_cases q : y = x <;> simp [q, hm]
    rw [hmm] at F₁
    exact turn i v h tk ow a b c e na nb nc ne hv (by omega) ha hb hc he hoff F₁ N₁
  · rintro m₁ nx h tk ⟨⟨a, b, c, e, na, nb, nc, ne, rfl, ha, hb, hc, he⟩, hm⟩ F₁ N₁
    have hmm : m₁ = fun y => if y = x then m₁ x else m₀ y := by
      funext y; by_cases q : y = x <;> simp [q, hm]
    rw [hmm] at F₁
    exact done _ h tk a b c e na nb nc ne F₁ N₁ (by omega)
theorem gram_end {h' : Heap} {L own off D l9 l10 : Addr} {oD : Obj} {rest : List (Addr × Obj)} {m₀ m' : PySem.Str → Option Value} {i : Nat} {ow news' : List (Addr × Obj)} {a b c e : Array Value} {na nb nc ne : Nat} {s₁ : Shared} {tk : Nat}
    (F : Fr h₀ L h' m') (N : News h₀ L h' news') (h1 : (own, listOf a na) ∈ news') (h2 : (off, listOf b nb) ∈ news') (h3 : (D, oD) ∈ news') (h4 : (l9, listOf c nc) ∈ news') (h5 : (l10, listOf e ne) ∈ news') (hr : ∀ p ∈ rest, p ∈ news') (ho : ∀ p ∈ ow, p ∈ news')
    (hz : ∀ z, z ≠ x → m' z = m₀ z) (ha : a.size ≤ 3 * (i + 1)) (hb : b.size ≤ i + 1) (hc : c.size ≤ i + 1) (he : e.size ≤ i + 1) :
    InvEndN h₀ L (JG own off D oD l9 l10 rest m₀ x (i + 1)) ow (own :: off :: D :: l9 :: l10 :: rest.map (·.1)) s₁ { s₁ with heap := h', toks := tk } :=
  InvEndN.intro F N ⟨⟨a, b, c, e, na, nb, nc, ne, rfl, ha, hb, hc, he⟩, hz⟩ rfl (fun p hp => by
    rcases List.mem_cons.mp hp with rfl | hp
    · exact h1
    · rcases List.mem_cons.mp hp with rfl | hp
      · exact h2
      · rcases List.mem_cons.mp hp with rfl | hp
        · exact h3
        · rcases List.mem_cons.mp hp with rfl | hp
          · exact h4
          · rcases List.mem_cons.mp hp with rfl | hp
            · exact h5
            · exact hr p hp) ho
end
/-- what is asked of the rules that a grammar is made of -/
structure RuleEs (es : List DictEntry) (num left : Int) (rt : Addr) : Prop where
  gNum : ∃ t, getL (PySem.Str.ofString "number") es = some (some (.int num t))
  gLeft : ∃ t, getL (PySem.Str.ofString "left") es = some (some (.int left t))
  gRight : getL (PySem.Str.ofString "right") es = some (some (.ref rt))
  gBefore : ∃ t, getL (PySem.Str.ofString "before") es = some (some (.int 0 t))
def RulesAt (h : Heap) (items : Array Value) : Prop :=
  ∀ (i : Nat) (v : Value), items[i]? = some v → ∃ (x d : Addr) (es : List DictEntry) (n : Nat) (rt : Addr) (num left : Int) (its : Array Value) (k : Int), v = Value.ref x ∧ InstAt h x (instObj 229 d) 229 (some (dictOf es n)) ∧ RuleEs es num left rt ∧ (left = 9 ∨ left = 10) ∧ IsTup h rt its ∧ (its.size : Int) = k ∧ k ≤ 2
section
variable {prog : Program} {w : World} {A : Around} {E : Value → Shared → Prop} {s : Shared} {h₀ : Heap} {L : Addr} {m : PySem.Str → Option Value} {env : Env}
/-- the end of a turn that leaves the ledger as it was -/
def TurnEnd (h₀ : Heap) (L : Addr) (m : PySem.Str → Option Value) (all : List (Addr × Obj)) (s : Shared) (s₂ : Shared) : Prop := ∃ h' tk', s₂ = { s with heap := h', toks := tk' } ∧ Fr h₀ L h' m ∧ News h₀ L h' all
theorem TurnEnd.intro {all now : List (Addr × Obj)} {h' : Heap} {tk' : Nat} (F : Fr h₀ L h' m) (N : News h₀ L h' now) (sub : ∀ p ∈ all, p ∈ now) : TurnEnd h₀ L m all s { s with heap := h', toks := tk' } := ⟨h', tk', rfl, F, fun p hp => N p (sub p hp)⟩
theorem src_rules {elt : Expr} {x : PySem.Str} {scope : Scope} {cl : List (PySem.Str × Addr)} {ax : Addr} {its : Array Value} {news : List (Addr × Obj)} {Fin : Shared → List Value → List (Addr × Obj) → Prop} (hh : A.handled = none) (F : Fr h₀ L s.heap m) (N : News h₀ L s.heap news) (hl : h₀.IsList ax its) (hsz : its.size = 5) (hU : RulesAt h₀ its)
    (step : ∀ I oI C oC D m₂ h tk ys (E' : Value → Shared → Prop) (xr dr : Addr) (es : List DictEntry) (n : Nat) (rt : Addr) (num left : Int) (tup : Array Value) (k : Int) (tn tl tb : Tok), InstAt h₀ xr (instObj 229 dr) 229 (some (dictOf es n)) → getL (PySem.Str.ofString "number") es = some (some (.int num tn)) → getL (PySem.Str.ofString "left") es = some (some (.int left tl)) →
      getL (PySem.Str.ofString "right") es = some (some (.ref rt)) → getL (PySem.Str.ofString "before") es = some (some (.int 0 tb)) → IsTup h₀ rt tup → (tup.size : Int) = k → 0 ≤ k → k ≤ 2 → LCg.NsObj oC m₂ → m₂ x = some (.ref xr) → Fr h₀ L h m → News h₀ L h ((I, oI) :: (C, oC) :: (D, LCg.lst ys) :: news) →
      wpAny (model prog w) A (eval elt (compEnvC scope cl C env)) (fun _ s₂ => TurnEnd h₀ L m ((I, oI) :: (C, oC) :: (D, LCg.lst ys) :: news) { s with heap := h, toks := tk } s₂) E' { s with heap := h, toks := tk })
    (fin : ∀ g ys, ys.length = 5 → Fin { s with heap := g } ys news) : LCg.CompSrc prog w A h₀ L m env elt x scope cl Fin (.ref ax) s := by
  refine LCg.CompSrc.base hh F N hl (by rw [hsz]; decide) fun g => ?_
  refine rest_inv (fun _ nw => nw = news) ?_ _ _ _ _ rfl ?_
  · rintro i v I oI C oC D m₂ h tk ys nw E' rfl hP hC hx F' N' off ne
    obtain ⟨xr, dr, es, n, rt, num, left, tup, k, rfl, hI, ⟨⟨tn, g1⟩, ⟨tl, g2⟩, g3, ⟨tb, g4⟩⟩, _, hT, hk, hk2⟩ := hU i v hP
    refine wpAny_mono (step I oI C oC D m₂ h tk ys E' xr dr es n rt num left tup k tn tl tb hI g1 g2 g3 g4 hT hk (by omega) hk2 hC hx F' N') (fun y s₂ ⟨h', tk', e, F₂, N₂⟩ => ?_) fun _ _ e => e
    exact ⟨h', tk', nw, e, F₂, N₂, off, .inl hl, rfl⟩
  · rintro ys' nw' hlen rfl
    exact fin g ys' (by rw [hlen, hsz]; rfl)
end
theorem dict_new {prog : Program} {w : World} : (dictOf [] 0).IsDictOf (PySem.strKind prog w) [] := by
  refine ⟨#[], 0, ?_, rfl, ?_, ?_, List.nodup_nil⟩
  · first | exact ⟨rfl, rfl⟩ | exact rfl | (unfold Obj.ExactDict; simp)
  · first | exact (fun _ h => by simp at h) | (intro e he; simp at he) | trivial
  · first | exact .nil | trivial
section
variable {prog : Program} {w : World} {A : Around} {E : Value → Shared → Prop} {s : Shared} {h₀ : Heap} {env : Env} {x : PySem.Str} {body : List Stmt} {Q : Flow → Shared → Prop}
/-- what stands while the numbers are noted -/
def JN (prog : Program) (w : World) (nb : Addr) (rest : List (Addr × Obj)) (m₀ : PySem.Str → Option Value) (x : PySem.Str) (i : Nat) (m : PySem.Str → Option Value) (nx : List (Addr × Obj)) : Prop :=
  (∃ o kvs c, nx = (nb, o) :: rest ∧ o.IsDictOf (PySem.strKind prog w) kvs ∧ PyProof.V.FlatPairs PyData.str kvs (kdpD c) ∧ c.length ≤ i) ∧ ∀ z, z ≠ x → m z = m₀ z
theorem iter_nums {r nb : Addr} {b₀ : Int} {t₀ u₀ v₀ : Tok} {rest : List (Addr × Obj)} {m₀ : PySem.Str → Option Value} {o₀ : Obj}
    (hh : A.handled = none) (hr : IsRange s.heap r 0 b₀ 1 t₀ u₀ v₀) (hsmall : Builtin.Range.small 0 b₀ 1 = true) (hn : Builtin.Range.rangeSize 0 b₀ 1 = ((9 : Nat) : Int)) (F : Fr h₀ env.locals s.heap m₀) (N : News h₀ env.locals s.heap ((nb, o₀) :: rest)) (ho₀ : o₀.IsDictOf (PySem.strKind prog w) [])
    (turn : ∀ (i : Nat) t o kvs c h tk ow, i < 9 → o.IsDictOf (PySem.strKind prog w) kvs → PyProof.V.FlatPairs PyData.str kvs (kdpD c) → c.length ≤ i → OwnOff ow (nb :: rest.map (·.1)) → Fr h₀ env.locals h (fun y => if y = x then some (.int (i : Int) t) else m₀ y) → News h₀ env.locals h (((nb, o) :: rest) ++ ow) →
      wpAny (model prog w) A (execs body env) (InvPostN h₀ env.locals (JN prog w nb rest m₀ x (i + 1)) ow (nb :: rest.map (·.1)) { s with heap := h, toks := tk } Q) E { s with heap := h, toks := tk })
    (done : ∀ q h tk o, Fr h₀ env.locals h (fun y => if y = x then q else m₀ y) → News h₀ env.locals h ((nb, o) :: rest) → Q .next { s with heap := h, toks := tk }) :
    wpAny (model prog w) A (pyIter (.ref r)) (fun it s₂ => LoopAtV prog w A h₀ env x body Q E it s₂) E s := by
  refine iter_rng (JN prog w nb rest m₀ x) hh hr hsmall hn F N ⟨⟨_, _, [], rfl, ho₀, .nil, Nat.le_refl _⟩, fun _ _ => rfl⟩ ?_ ?_
  · rintro i t m₁ nx h tk ow hi _ hoff ⟨⟨o, kvs, c, rfl, ho, hf, hc⟩, hm⟩ F₁ N₁
    have hmm : (fun y => if y = x then some (Value.int (i : Int) t) else m₁ y) = fun y => if y = x then some (.int (i : Int) t) else m₀ y := by
      funext y; by_cases q : y = x <;> simp [q, hm]
    rw [hmm] at F₁
    exact turn i t o kvs c h tk ow hi ho hf hc hoff F₁ N₁
  · rintro m₁ nx h tk ⟨⟨o, kvs, c, rfl, ho, hf, hc⟩, hm⟩ F₁ N₁
    have hmm : m₁ = fun y => if y = x then m₁ x else m₀ y := by
      funext y; by_cases q : y = x <;> simp [q, hm]
    rw [hmm] at F₁
    exact done _ h tk o F₁ N₁
theorem nums_end {h' : Heap} {L nb : Addr} {rest : List (Addr × Obj)} {m₀ m' : PySem.Str → Option Value} {i : Nat} {ow news' : List (Addr × Obj)} {o : Obj} {kvs : List (PySem.Str × Value)} {c : List (PySem.Str × Int)} {k : PySem.Str} {v : Int} {s₁ : Shared} {tk : Nat}
    (F : Fr h₀ L h' m') (N : News h₀ L h' news') (ho : o.IsDictOf (PySem.strKind prog w) kvs) (hf : PyProof.V.FlatPairs PyData.str kvs (kdpD (kdpPut c k v))) (h1 : (nb, o) ∈ news') (hr : ∀ p ∈ rest, p ∈ news') (hw : ∀ p ∈ ow, p ∈ news') (hz : ∀ z, z ≠ x → m' z = m₀ z) (hc : c.length ≤ i) :
    InvEndN h₀ L (JN prog w nb rest m₀ x (i + 1)) ow (nb :: rest.map (·.1)) s₁ { s₁ with heap := h', toks := tk } :=
  InvEndN.intro F N ⟨⟨o, kvs, _, rfl, ho, hf, Nat.le_trans (kdpPut_len c k v) (Nat.succ_le_succ hc)⟩, hz⟩ rfl (fun p hp => by
    rcases List.mem_cons.mp hp with rfl | hp
    · exact h1
    · exact hr p hp) hw
end
structure GramEs (es : List DictEntry) (nm rl : Addr) : Prop where
  gNames : getL (PySem.Str.ofString "names") es = some (some (.ref nm))
  gCount : ∃ t, getL (PySem.Str.ofString "terminal_count") es = some (some (.int 9 t))
  gRules : getL (PySem.Str.ofString "rules") es = some (some (.ref rl))
end TFC
-- FR
section TFR
set_option maxHeartbeats 8000000 in
theorem rule_spec (w : World) (mean : ExcName → Option Value) (mg mb : PySem.Str → Option Value) (s : Shared) (num left : Int) (t1 t2 : Tok) (rt : Addr) :
    Spec w mean mg mb 229 [.int num t1, .int left t2, .ref rt] 3 24 s (fun r h' => NewObj 229 (fun es => RuleEs es num left rt) s.heap r h') := by
  ((unfold Spec; k_fill))
  intro dp un gd cn cs a ccd cl outer A₀ base h₀ L m Q E B F X T hk hd hu ret
  (first   | ((obtain ⟨x', hx'⟩ := exNew (by assumption)); refine' enterI x' hx' ?k1q52 ?k2q52 ?k3q52 ?k5q52 ?kAq52 ?kFq52 ?kKq52 ?m1q52 ?m2q52 ?m3q52 ?k6q52 ?k7q52 ?k8q52 ?k9q52 ?kBq52 ?_ ?c2q52 ?c3q52 ?c4q52 ?c5q52; (case kAq52 => exact rfl); (case kFq52 => exact rfl); (case kKq52 => assumption); (case k1q52 => k_asm); (case k2q52 => k_asm); (case k3q52 => k_asm); (case k5q52 => k_asm); (case m1q52 => k_is); (case m2q52 => k_is); (case m3q52 => k_is); (case k6q52 => k_is); (case k7q52 => k_is); (case k8q52 => ktr_room); (case k9q52 => (intro h' _; first | exact BindsTo.of_eq rfl | exact binds_K (by k_in) rfl (by k_is) rfl rfl rfl)); (case c5q52 => decide); (case kBq52 => exact locs rfl); (case c2q52 => exact rfl); (case c3q52 => exact rfl); (case c4q52 => exact rfl); k_whole; clear hx'; intro d' L' h' tk' F' N' l1 l2 B' X' T'; (try k_lt2 l1); (try k_lt2 l2); (try dsimp only); (try k_fold)))
  k_steps
  refine' ret _ _ _ (Fr.keep (by assumption)) (NewObj.intro ?N ?h1 ?h2 ?ne ⟨getE ?e1, getE ?e2, ?e3, getE ?e4⟩)
  (case N => k_asm)
  (case h1 => k_mem)
  (case h2 => k_mem)
  (case ne => assumption)
  (case e1 => k_get)
  (case e2 => k_get)
  (case e3 => k_get)
  (case e4 => k_get)
end TFR
-- FG
local macro_rules | `(tactic| walk_at "my_a7") => `(tactic| (k_here; (with_reducible show wpAny _ _ (call (Value.builtin "len") [Value.ref _]) _ _ _); k_dflt (refine' kun_lenT ?k1 ?k2 ?k3 ?_; (case k1 => exact IsTup.keeps (by assumption) (Fr.keep (by k_asm))); (case k2 => assumption); (case k3 => omega); k_whole)))
section TFG
local macro_rules | `(tactic| k_inst) => `(tactic| exact instKeeps (by assumption) (Fr.keep (by k_asm)))
local macro_rules | `(tactic| k_get) => `(tactic| assumption)
local macro_rules | `(tactic| walk_at "exec For Name Attribute cons nil") => `(tactic| walk_at "my_for")
local macro_rules | `(tactic| walk_at "pyIter ref") => `(tactic| walk_at "my_stop")
local macro_rules | `(tactic| walk_at "eval ListComp") => `(tactic| (k_here; k_dflt (refine LCg.ListComp_U (F₀ := by k_asm) (by rfl) (by decide) (by rfl) (by decide) (by rfl) ?_)))
local macro_rules | `(tactic| walk_at "CompSrc") => `(tactic| (k_here; k_dflt (refine src_two (by rfl) (by k_asm) (by k_asm) (by assumption) (by rfl) ?_); intro D' h' tk' ys' l9' l10' y9' y10' yl' lt' lo' d9' d10' ne' F' N'; (try k_lt2 lt'); (try k_lt lo'); (try simp only [AllNe, and_true] at ne'); (try dsimp only)))
local macro_rules | `(tactic| walk_at "subscriptTail") => `(tactic| (k_here; (with_reducible show wpAny _ _ (subscriptTail _ _ (Value.ref _) (Value.int _ _)) _ _ _); k_dflt (refine' item_of ?k1 ?k2 ?k3 ?k4 ?_ ?k6; (case k1 => exact isList_news (by k_asm) (by k_mem)); (case k4 => assumption); (case k2 => omega); (case k3 => omega); (case k6 => with_unfolding_all rfl); k_whole)))
local macro_rules | `(tactic| walk_at "call builtin:len") => `(tactic| walk_at "my_a7")
local macro_rules | `(tactic| walk_at "call builtin:len") => `(tactic| (k_here; (with_reducible show wpAny _ _ (call (Value.builtin "len") [Value.ref _]) _ _ _); k_dflt (refine' kun_lenL ?k1 ?k2 ?k3 ?_; (case k1 => exact isList_news (by k_asm) (by k_mem)); (case k2 => exact rfl); (case k3 => omega); k_whole)))
theorem not_long {a b : Array Value} (h : a.size + b.size ≤ 100) : ¬(!a.isEmpty && Builtin.List.listTooLong (a.size + b.size)) = true := by
  have : Builtin.List.listTooLong (a.size + b.size) = false := by simp [Builtin.List.listTooLong, sizeLine]; omega
  simp [this]
local macro_rules | `(tactic| walk_at "call builtin:list.extend") => `(tactic| (k_here; (with_reducible show wpAny _ _ (call (Value.builtin _) [Value.ref _, Value.ref _]) _ _ _); k_dflt (refine' kl_extend ?F ?N ?b ?e ?ne ?U ?d ?z ?y ?_; (case F => k_asm); (case N => k_asm); (case b => k_mem); (case U => k_upd); (case e => exact rfl); (case ne => (intro q'; rw [Array.length_toList] at q'; omega)); (case d => exact not_long (by omega)); (case z => (simp only [Array.length_toList]; unfold sizeLine; omega)); (case y => (unfold sizeLine; omega))); kl_rest))
set_option maxHeartbeats 8000000 in
theorem grammar_spec (w : World) (mean : ExcName → Option Value) (mg mb : PySem.Str → Option Value) (s : Shared) (nm rl lv : Addr) (t1 t2 : Tok) (v0 v1 v2 v3 v4 v5 v6 v7 v8 v9 v10 : Value) (items : Array Value)
    (hN : s.heap.IsList nm #[v0, v1, v2, v3, v4, v5, v6, v7, v8, v9, v10]) (hR : s.heap.IsList rl items) (h5 : items.size = 5) (hU : RulesAt s.heap items) :
    Spec w mean mg mb 311 [.ref nm, .int 9 t1, .ref rl, .ref lv, .none, .int 10 t2] 3 24 s (fun r h' => NewObj 311 (fun es => GramEs es nm rl) s.heap r h') := by
  ((unfold Spec; k_fill))
  intro dp un gd cn cs a ccd cl outer A₀ base h₀ L m Q E B F X T hk hd hu ret
  (first   | ((obtain ⟨x', hx'⟩ := exNew (by assumption)); refine' enterI x' hx' ?k1q54 ?k2q54 ?k3q54 ?k5q54 ?kAq54 ?kFq54 ?kKq54 ?m1q54 ?m2q54 ?m3q54 ?k6q54 ?k7q54 ?k8q54 ?k9q54 ?kBq54 ?_ ?c2q54 ?c3q54 ?c4q54 ?c5q54; (case kAq54 => exact rfl); (case kFq54 => exact rfl); (case kKq54 => assumption); (case k1q54 => k_asm); (case k2q54 => k_asm); (case k3q54 => k_asm); (case k5q54 => k_asm); (case m1q54 => k_is); (case m2q54 => k_is); (case m3q54 => k_is); (case k6q54 => k_is); (case k7q54 => k_is); (case k8q54 => ktr_room); (case k9q54 => (intro h' _; first | exact BindsTo.of_eq rfl | exact binds_K (by k_in) rfl (by k_is) rfl rfl rfl)); (case c5q54 => decide); (case kBq54 => exact locs rfl); (case c2q54 => exact rfl); (case c3q54 => exact rfl); (case c4q54 => exact rfl); k_whole; clear hx'; intro d' L' h' tk' F' N' l1 l2 B' X' T'; (try k_lt2 l1); (try k_lt2 l2); (try dsimp only); (try k_fold)))
  k_steps
  unfold Stop
  (with_unfolding_all refine' iter_gram h5 (by rfl) hR (by assumption) (by assumption) ?turn ?done)
  case turn =>
    intro i v h tk ow a b c e na nb nc ne hv hi5 ha hb hc he hoff F N
    obtain ⟨x, d, es, n, rt, num, left, its, k, e', hI, hE, hL, hT, hk, hk2⟩ := hU i v hv
    subst e'
    obtain ⟨⟨tn, g1⟩, ⟨tl, g2⟩, g3, ⟨tb, g4⟩⟩ := hE
    have hk0 : 0 ≤ k := by omega
    (try simp only [List.nil_append, List.cons_append, List.append_nil] at N)
    (try k_fold)
    rcases hL with e' | e' <;> subst e' <;> k_steps
    all_goals (refine' gram_end ?F ?N ?h1 ?h2 ?h3 ?h4 ?h5 ?hr ?ho ?hz ?ha ?hb ?hc ?he; (case F => assumption); (case N => assumption); (case h1 => k_mem); (case h2 => k_mem); (case h3 => k_mem); (case h4 => k_mem); (case h5 => k_mem); (case hr => lcg_sub); (case ho => (intro p hp; k_ownIn)); (case hz => (intro z h1; first | rfl | (simp [h1]; done))); (case ha => (simp only [List.size_toArray, List.length_append, Array.length_toList] at *; omega)); (case hb => (simp only [Array.size_push]; omega)); (case hc => (first | omega | (simp only [Array.size_push]; omega))); (case he => (first | omega | (simp only [Array.size_push]; omega))))
  case done =>
    intro q h tk a b c e na nb nc ne F N ha
    (try simp only [List.nil_append, List.cons_append, List.append_nil] at N)
    (try k_fold)
    k_steps
    refine' ret _ _ _ (Fr.keep (by assumption)) (NewObj.intro ?N ?h1 ?h2 ?ne ⟨?e1, getE ?e2, ?e3⟩)
    (case N => k_asm)
    (case h1 => k_mem)
    (case h2 => k_mem)
    (case ne => assumption)
    (case e1 => k_get)
    (case e2 => k_get)
    (case e3 => k_get)
end TFG
-- FH
section TFH
local macro_rules | `(tactic| k_room) => `(tactic| ktr_room)
local macro_rules | `(tactic| k_inst) => `(tactic| exact instKeeps (by assumption) (Fr.keep (by k_asm)))
local macro_rules | `(tactic| k_get) => `(tactic| assumption)
local macro_rules | `(tactic| walk_at "CompSrc") => `(tactic| refine Stop.of ?_)
local macro_rules | `(tactic| walk_at "my_src") => `(tactic| (unfold Stop; refine' src_rules ?a ?b ?c ?d ?e ?f ?step ?fin; (case a => exact rfl); (case b => k_asm); (case c => k_asm); (case d => assumption); (case e => assumption); (case f => assumption)))
local macro_rules | `(tactic| walk_at "call builtin:len") => `(tactic| walk_at "my_a7")
local macro_rules | `(tactic| walk_at "exec For Name Call cons nil") => `(tactic| walk_at "my_for")
local macro_rules | `(tactic| walk_at "pyIter ref") => `(tactic| walk_at "my_stop")
local macro_rules | `(tactic| walk_at "subscriptTail") => `(tactic| walk_at "my_a5")
local macro_rules | `(tactic| walk_at "setItem ref str") => `(tactic| (k_here; (with_reducible show wpAny _ _ (setItem (Value.ref _) (Value.str _ _) (Value.int _ _)) _ _ _); k_dflt (refine' kdp_setItem ?F ?N ?U ?d ?f ?z ?_; (case F => k_asm); (case N => k_asm); (case U => k_updF); (case d => assumption); (case f => assumption); (case z => omega)); intro h' o' kvs' F' N' hd' hf'; (try dsimp only at N')))
set_option maxHeartbeats 8000000 in
theorem parse_spec (w : World) (mean : ExcName → Option Value) (mg mb : PySem.Str → Option Value) (s : Shared) (g dg nm rl R go D co se : Addr) (es : List DictEntry) (n : Nat) (tl : Tok) (nms items : Array Value)
    (hI : InstAt s.heap g (instObj 311 dg) 311 (some (dictOf es n))) (hE : GramEs es nm rl)
    (hN : s.heap.IsList nm nms) (hS : ∀ i : Nat, i < 9 → ∃ sx t, nms[i]? = some (.str sx t))
    (hR : s.heap.IsList rl items) (h5 : items.size = 5) (hU : RulesAt s.heap items) :
    Spec w mean mg mb 197 [.ref g, .ref R, .ref go, .ref D, .ref co, .ref se, .str (PySem.Str.ofString "lalr") tl] 6 50 s (fun r h' => NewObj 197 (fun es => TabEs es R D) s.heap r h') := by
  obtain ⟨e1, ⟨tc, e2⟩, e3⟩ := hE
  ((unfold Spec; k_fill))
  intro dp un gd cn cs a ccd cl outer A₀ base h₀ L m Q E B F X T hk hd hu ret
  ((obtain ⟨x', hx'⟩ := exNew (by assumption)); (refine' enterIS x' hx' ?k1q56 ?k2q56 ?k3q56 ?k5q56 ?kAq56 ?kFq56 ?kKq56 ?m1q56 ?m2q56 ?m3q56 ?k6q56 ?k7q56 ?k8q56 ?k9q56 ?kBq56 ?_ ?c5q56 ?c2q56 ?c3q56 ?c4q56; (case kAq56 => exact rfl); (case kFq56 => exact rfl); (case kKq56 => assumption); (case k1q56 => k_asm); (case k2q56 => k_asm); (case k3q56 => k_asm); (case k5q56 => k_asm); (case m1q56 => k_is); (case m2q56 => k_is); (case m3q56 => k_is); (case k6q56 => k_is); (case k7q56 => k_is); (case k8q56 => ktr_room); (case k9q56 => (intro h' _; first | exact BindsTo.of_eq rfl | exact binds_K (by k_in) rfl (by k_is) rfl rfl rfl)); (case c5q56 => decide); (case kBq56 => exact locs rfl); (case c2q56 => exact rfl); (case c3q56 => exact rfl); (case c4q56 => exact rfl); clear hx'; intro d' L' h' tk' F' N' l1 l2 B' X' T'; (try k_lt2 l1); (try k_lt2 l2); (try dsimp only)))
  k_steps
  walk_at "my_src"
  case step => ((intro I oI C oC D' m₂ h tk ys E' xr dr es' n' rt num left tup k tn tl' tb hI' g1 g2 g3 g4 hT hk hk0 hk2 hC hx F N; (try k_fold); k_steps; exact TurnEnd.intro (by assumption) (by assumption) (by lcg_sub)))
  case fin =>
    intro g1 ys1 y1
    k_steps
    walk_at "my_src"
    case step => ((intro I oI C oC D' m₂ h tk ys E' xr dr es' n' rt num left tup k tn tl' tb hI' g1 g2 g3 g4 hT hk hk0 hk2 hC hx F N; (try k_fold); k_steps; exact TurnEnd.intro (by assumption) (by assumption) (by lcg_sub)))
    case fin =>
      intro g2 ys2 y2
      k_steps
      walk_at "my_src"
      case step => ((intro I oI C oC D' m₂ h tk ys E' xr dr es' n' rt num left tup k tn tl' tb hI' g1 g2 g3 g4 hT hk hk0 hk2 hC hx F N; (try k_fold); k_steps; exact TurnEnd.intro (by assumption) (by assumption) (by lcg_sub)))
      case fin =>
        intro g3 ys3 y3
        walk1
        try k_fold
        walk1
        try k_fold
        ks_step "exec Expr"
        refine ks_wpAt_Expr_any ?_
        ks_step "eval Call"
        refine ks_wpAt_MethodCall ?_
        ks_step "attributeBase Call"
        refine ks_node (by k_asm) (by k_asm) (by k_asm) (by k_asm) (by k_is) (by rfl) (by rfl) (by k_inst) (by k_is) (by rfl) (by first | rfl | decide +kernel) (by k_is) (by k_is) (by k_is) (by k_is) (by decide) (by rfl) (by rfl) (by rfl) (by rfl) (by decide +kernel) (by first | boot_by_name | rfl | kernel_rfl) ?_
        intro so' h' F' N' l1
        (try k_lt l1)
        k_steps
        unfold Stop
        (rename Fr s.heap _ _ _ => FG9)
        have hN' := listKeeps hN (Fr.keep FG9)
        (with_unfolding_all refine' iter_nums (by rfl) (by assumption) (by rfl) (by rfl) (by assumption) (by assumption) (by assumption) ?turn ?done)
        case turn =>
          intro i t o kvs c h tk ow hi9 hd hf hc hoff F N
          obtain ⟨sx, tx, hsx⟩ := hS i hi9
          have hsx' : nms[((i : Nat) : Int).toNat]? = some (.str sx tx) := by simpa using hsx
          (try simp only [List.nil_append, List.cons_append, List.append_nil] at N)
          (try k_fold)
          k_steps
          (refine' nums_end ?F ?N ?ho ?hf ?h1 ?hr ?hw ?hz ?hc; (case F => assumption); (case N => assumption); (case ho => assumption); (case hf => assumption); (case h1 => k_mem); (case hr => lcg_sub); (case hw => (intro p hp; k_ownIn)); (case hz => (intro z h1; first | rfl | (simp [h1]; done))); (case hc => assumption))
        case done =>
          intro q h tk o F N
          (try simp only [List.nil_append, List.cons_append, List.append_nil] at N)
          (try k_fold)
          k_steps
          refine' ret _ _ _ (Fr.keep (by assumption)) (NewObj.intro ?N ?h1 ?h2 ?ne ⟨?e1, ?e2, getE (t := tc) ?e3, ?e4, ?e5, ?e6, ?e7, ?e8, ?e9⟩)
          (case N => k_asm)
          (case h1 => k_mem)
          (case h2 => k_mem)
          (case ne => assumption)
          all_goals k_get
end TFH
-- FU
section TFU
theorem Spec.useObj {C : Addr} {P : List DictEntry → Prop} {w : World} {mean : ExcName → Option Value} {mg mb : PySem.Str → Option Value} {f : Addr} {vs : List Value} {d u : Nat} {s : Shared} (S : Spec w mean mg mb f vs d u s (fun r h' => NewObj C P s.heap r h'))
    {dp un : Nat} {gd : Option (List Code)} {cn : PySem.Str} {cs : Scope} {a : Addr} {ccd : Value} {cl : List (PySem.Str × Addr)} {outer : List Env} {A₀ : Around} {base h₀ : Heap} {L : Addr} {m : PySem.Str → Option Value} {news : List (Addr × Obj)} {Q E : Value → Shared → Prop}
    (F : Fr h₀ L s.heap m) (N : News h₀ L s.heap news) (B : Below A₀ base outer h₀) (X : (hd.heap_39 w.params).In h₀) (T : Top lawQ LO mean mg mb h₀) (hk : cs.kind = .function) (hd : dp + d < recursionLimit) (hu : un + u < cLine)
    (ret : ∀ x dx es n h' tk', Fr h₀ L h' m → News h₀ L h' ((x, instObj C dx) :: (dx, dictOf es n) :: news) → AllNe x news → AllNe dx news → ¬ @Eq Nat x dx → P es → s.heap.StaysIn h' → Q (.ref x) { s with heap := h', toks := tk' }) :
    wpAny (model Challenge.rw_on0166_01.row.prog w) (ktrTop dp un gd cn cs L a ccd cl outer) (call (.ref f) vs) Q E s :=
  S _ _ _ _ _ _ _ _ _ _ _ _ _ _ _ _ B F X T hk hd hu fun r h' tk' st p => by
    obtain ⟨x, dx, es, n, rfl, N', n1, n2, n3, pe⟩ := NewObj.news p F N st
    exact ret x dx es n h' tk' (F.after st) N' n1 n2 n3 pe st
theorem Spec.useInts {w : World} {mean : ExcName → Option Value} {mg mb : PySem.Str → Option Value} {f : Addr} {vs : List Value} {ns : List Int} {d u : Nat} {s : Shared} (S : Spec w mean mg mb f vs d u s (fun r h' => NewInts s.heap ns r h'))
    {dp un : Nat} {gd : Option (List Code)} {cn : PySem.Str} {cs : Scope} {a : Addr} {ccd : Value} {cl : List (PySem.Str × Addr)} {outer : List Env} {A₀ : Around} {base h₀ : Heap} {L : Addr} {m : PySem.Str → Option Value} {news : List (Addr × Obj)} {Q E : Value → Shared → Prop}
    (F : Fr h₀ L s.heap m) (N : News h₀ L s.heap news) (B : Below A₀ base outer h₀) (X : (hd.heap_39 w.params).In h₀) (T : Top lawQ LO mean mg mb h₀) (hk : cs.kind = .function) (hd : dp + d < recursionLimit) (hu : un + u < cLine)
    (ret : ∀ l ys n h' tk', Fr h₀ L h' m → News h₀ L h' ((l, listOf ys.toArray n) :: news) → AllNe l news → IntsAre ys ns → s.heap.StaysIn h' → Q (.ref l) { s with heap := h', toks := tk' }) :
    wpAny (model Challenge.rw_on0166_01.row.prog w) (ktrTop dp un gd cn cs L a ccd cl outer) (call (.ref f) vs) Q E s :=
  S _ _ _ _ _ _ _ _ _ _ _ _ _ _ _ _ B F X T hk hd hu fun r h' tk' st p => by
    obtain ⟨l, ys, n, rfl, N', n1, hi⟩ := NewInts.news p F N st
    exact ret l ys n h' tk' (F.after st) N' n1 hi st
def RuleAt (h : Heap) (v : Value) : Prop := ∃ (x d : Addr) (es : List DictEntry) (n : Nat) (rt : Addr) (num left : Int) (its : Array Value) (k : Int), v = Value.ref x ∧ InstAt h x (instObj 229 d) 229 (some (dictOf es n)) ∧ RuleEs es num left rt ∧ (left = 9 ∨ left = 10) ∧ IsTup h rt its ∧ (its.size : Int) = k ∧ k ≤ 2
theorem rules5 {h : Heap} {a b c d e : Value} (ha : RuleAt h a) (hb : RuleAt h b) (hc : RuleAt h c) (hd : RuleAt h d) (he : RuleAt h e) : RulesAt h #[a, b, c, d, e] := by
  intro i v hv
  match i, hv with
  | 0, hv => have q : a = v := by simpa using hv
             exact q ▸ ha
  | 1, hv => have q : b = v := by simpa using hv
             exact q ▸ hb
  | 2, hv => have q : c = v := by simpa using hv
             exact q ▸ hc
  | 3, hv => have q : d = v := by simpa using hv
             exact q ▸ hd
  | 4, hv => have q : e = v := by simpa using hv
             exact q ▸ he
  | i + 5, hv => simp at hv
theorem rule_at {h₀ h : Heap} {L x d rt : Addr} {news : List (Addr × Obj)} {es : List DictEntry} {n k : Nat} {num left : Int} {its : Array Value} (N : News h₀ L h news) (e : RuleEs es num left rt) (hl : left = 9 ∨ left = 10) (hs : its.size ≤ 2) (h1 : (x, instObj 229 d) ∈ news) (h2 : (d, dictOf es n) ∈ news) (h3 : (rt, tupO its k) ∈ news) : RuleAt h (.ref x) :=
  ⟨x, d, es, n, rt, num, left, its, its.size, rfl, InstAt.of_news N h1 h2, e, hl, ⟨_, (N _ h3).1, rfl, k, rfl⟩, rfl, by omega⟩
theorem names_strs {s0 s1 s2 s3 s4 s5 s6 s7 s8 : PySem.Str} {t0 t1 t2 t3 t4 t5 t6 t7 t8 : Tok} {r : List Value} (nms : Array Value) (e : nms = (Value.str s0 t0 :: .str s1 t1 :: .str s2 t2 :: .str s3 t3 :: .str s4 t4 :: .str s5 t5 :: .str s6 t6 :: .str s7 t7 :: .str s8 t8 :: r).toArray) : ∀ i : Nat, i < 9 → ∃ sx t, nms[i]? = some (.str sx t) := by
  subst e
  intro i hi
  match i, hi with
  | 0, _ => exact ⟨_, _, rfl⟩
  | 1, _ => exact ⟨_, _, rfl⟩
  | 2, _ => exact ⟨_, _, rfl⟩
  | 3, _ => exact ⟨_, _, rfl⟩
  | 4, _ => exact ⟨_, _, rfl⟩
  | 5, _ => exact ⟨_, _, rfl⟩
  | 6, _ => exact ⟨_, _, rfl⟩
  | 7, _ => exact ⟨_, _, rfl⟩
  | 8, _ => exact ⟨_, _, rfl⟩
  | i + 9, h => omega
theorem fmod3 (n : Int) : 0 ≤ Int.fmod n 3 ∧ Int.fmod n 3 ≤ 2 := by
  rw [Int.fmod_eq_emod_of_nonneg n (by decide : (0 : Int) ≤ 3)]
  omega
/-- a rule made in this frame, as the ledger tells it -/
def RuleIn (news : List (Addr × Obj)) (v : Value) : Prop := ∃ (x d : Addr) (es : List DictEntry) (n : Nat) (rt : Addr) (num : Int) (its : Array Value) (k : Nat), v = Value.ref x ∧ (x, instObj 229 d) ∈ news ∧ (d, dictOf es n) ∈ news ∧ RuleEs es num 10 rt ∧ (rt, tupO its k) ∈ news ∧ its.size ≤ 2
theorem RuleIn.mono {news news' : List (Addr × Obj)} {v : Value} (h : ∀ p ∈ news, p ∈ news') : RuleIn news v → RuleIn news' v := fun ⟨x, d, es, n, rt, num, its, k, e, h1, h2, h3, h4, h5⟩ => ⟨x, d, es, n, rt, num, its, k, e, h _ h1, h _ h2, h3, h _ h4, h5⟩
section
variable {prog : Program} {w : World} {A : Around} {E : Value → Shared → Prop} {s : Shared} {h₀ : Heap} {L : Addr} {m : PySem.Str → Option Value} {env : Env}
/-- the end of a turn that makes a rule -/
def RuleEnd (h₀ : Heap) (L : Addr) (m : PySem.Str → Option Value) (I : Addr) (oI : Obj) (C : Addr) (oC : Obj) (D : Addr) (oD : Obj) (news : List (Addr × Obj)) (s : Shared) (y : Value) (s₂ : Shared) : Prop :=
  ∃ (h' : Heap) (tk' : Nat) (x d rt : Addr) (es : List DictEntry) (n k : Nat) (num : Int) (its : Array Value), s₂ = { s with heap := h', toks := tk' } ∧ y = .ref x ∧ Fr h₀ L h' m ∧ News h₀ L h' ((x, instObj 229 d) :: (d, dictOf es n) :: (rt, tupO its k) :: (I, oI) :: (C, oC) :: (D, oD) :: news) ∧ RuleEs es num 10 rt ∧ its.size ≤ 2 ∧
    ((@Ne Nat x I ∧ @Ne Nat x C ∧ @Ne Nat x D) ∧ (@Ne Nat d I ∧ @Ne Nat d C ∧ @Ne Nat d D) ∧ (@Ne Nat rt I ∧ @Ne Nat rt C ∧ @Ne Nat rt D))
theorem comp_rules {elt iter : Expr} {x : PySem.Str} {px : Pos} {scope : Scope} {cl : List (PySem.Str × Addr)} {pos : Pos} {Q : Value → Shared → Prop} (_F₀ : Fr h₀ L s.heap m)
    (hclos : closureFor scope env = pure cl) (hcell : ∀ y ∈ scope.names, y.2 ≠ .cell) (hkind : scope.kind = .function)
    (hnames : ∀ y ∈ scope.names, y.2 = .local → scope.names.lookup y.1 = some .local) (hx : scope.names.lookup x = some .local)
    (h : wpAny (model prog w) A (eval iter env) (fun xv s₁ => ∃ ax t1 t2 t3 t4 k news, xv = .ref ax ∧ A.handled = none ∧ Fr h₀ L s₁.heap m ∧ News h₀ L s₁.heap ((ax, tupO #[.int 1 t1, .int 2 t2, .int 3 t3, .int 4 t4] k) :: news) ∧
      (∀ I oI C oC D m₂ h tk ys nw (E' : Value → Shared → Prop) (num : Int) (tn : Tok), LCg.NsObj oC m₂ → m₂ x = some (.int num tn) → Fr h₀ L h m → News h₀ L h ((I, oI) :: (C, oC) :: (D, LCg.lst ys) :: nw) →
        wpAny (model prog w) A (eval elt (compEnvC scope cl C env)) (RuleEnd h₀ L m I oI C oC D (LCg.lst ys) nw { s₁ with heap := h, toks := tk }) E' { s₁ with heap := h, toks := tk }) ∧
      (∀ D h tk y1 y2 y3 y4 news', RuleIn news' y1 → RuleIn news' y2 → RuleIn news' y3 → RuleIn news' y4 → (∀ p ∈ news, p ∈ news') → LCg.Off1 D news' → Fr h₀ L h m → News h₀ L h ((D, LCg.lst [y1, y2, y3, y4]) :: news') → Q (.ref D) { s₁ with heap := h, toks := tk })) E s)
    (hs : ∀ x, foldedSetIterable iter env x = pure x := by intro _; rfl) :
    wpAny (model prog w) A (eval (.ListComp elt [⟨.Name x px, iter, [], 0⟩] scope pos) env) Q E s := by
  refine comp_tup _F₀ hclos hcell hkind hnames hx (wpAny_mono h (fun xv s₁ h₁ => ?_) fun _ _ e => e) hs
  obtain ⟨ax, t1, t2, t3, t4, k, news, rfl, hh, F, N, step, fin⟩ := h₁
  refine ⟨ax, #[.int 1 t1, .int 2 t2, .int 3 t3, .int 4 t4], k, _, rfl, hh, F, N, .head _, by show 4 ≤ sizeLine; decide, ?_⟩
  rintro s₂ ⟨g, rfl⟩
  refine rest_inv (fun ys nw => (∀ y ∈ ys, RuleIn nw y) ∧ ∀ p ∈ (ax, tupO #[.int 1 t1, .int 2 t2, .int 3 t3, .int 4 t4] k) :: news, p ∈ nw) ?_ _ _ _ _ ⟨fun y hy => (by cases hy), fun p hp => hp⟩ ?_
  · rintro i v I oI C oC D m₂ h tk ys nw E' ⟨hJ, hb⟩ hP hC hx F' N' off ne
    obtain ⟨num, tn, rfl⟩ : ∃ num tn, v = .int num tn := by
      match i, hP with
      | 0, hP => exact ⟨1, t1, by simpa using hP.symm⟩
      | 1, hP => exact ⟨2, t2, by simpa using hP.symm⟩
      | 2, hP => exact ⟨3, t3, by simpa using hP.symm⟩
      | 3, hP => exact ⟨4, t4, by simpa using hP.symm⟩
      | i + 4, hP => simp at hP
    refine wpAny_mono (step I oI C oC D m₂ h tk ys nw E' num tn hC hx F' N') (fun y s₂ hy => ?_) fun _ _ e => e
    obtain ⟨h', tk', x', d', rt, es, n, k', nm, its, rfl, rfl, F₂, N₂, re, hsz, nx, nd, nr⟩ := hy
    refine ⟨h', tk', (x', instObj 229 d') :: (d', dictOf es n) :: (rt, tupO its k') :: nw, rfl, F₂, fun p hp => ?_, ⟨nx, nd, nr, off⟩, .tail _ (.tail _ (.tail _ (hb _ (.head _)))), fun y hy => ?_, fun p hp => .tail _ (.tail _ (.tail _ (hb p hp)))⟩
    · simp only [List.mem_cons] at hp
      rcases hp with rfl | rfl | rfl | rfl | rfl | rfl | hp
      · exact N₂ _ (.tail _ (.tail _ (.tail _ (.head _))))
      · exact N₂ _ (.tail _ (.tail _ (.tail _ (.tail _ (.head _)))))
      · exact N₂ _ (.tail _ (.tail _ (.tail _ (.tail _ (.tail _ (.head _))))))
      · exact N₂ _ (.head _)
      · exact N₂ _ (.tail _ (.head _))
      · exact N₂ _ (.tail _ (.tail _ (.head _)))
      · exact N₂ _ (.tail _ (.tail _ (.tail _ (.tail _ (.tail _ (.tail _ hp))))))
    · rcases List.mem_append.mp hy with hy | hy
      · exact RuleIn.mono (fun p hp => .tail _ (.tail _ (.tail _ hp))) (hJ y hy)
      · rw [List.mem_singleton.mp hy]
        exact ⟨x', d', es, n, rt, nm, its, k', rfl, .head _, .tail _ (.head _), re, .tail _ (.tail _ (.head _)), hsz⟩
  · rintro ys' nw' hlen ⟨hJ, hb⟩ D h' tk F' N' o1
    match ys', hlen with
    | [y1, y2, y3, y4], _ => exact fin D h' tk y1 y2 y3 y4 nw' (hJ _ (by simp)) (hJ _ (by simp)) (hJ _ (by simp)) (hJ _ (by simp)) (fun p hp => hb p (.tail _ hp)) o1 F' N'
theorem RuleEnd.intro {I C D x d rt : Addr} {oI oC oD : Obj} {news : List (Addr × Obj)} {h' : Heap} {tk' n k : Nat} {es : List DictEntry} {num : Int} {its : Array Value} (F : Fr h₀ L h' m) (N : News h₀ L h' ((x, instObj 229 d) :: (d, dictOf es n) :: (rt, tupO its k) :: (I, oI) :: (C, oC) :: (D, oD) :: news)) (re : RuleEs es num 10 rt) (hs : its.size ≤ 2)
    (h1 : (@Ne Nat x I ∧ @Ne Nat x C ∧ @Ne Nat x D)) (h2 : (@Ne Nat d I ∧ @Ne Nat d C ∧ @Ne Nat d D)) (h3 : (@Ne Nat rt I ∧ @Ne Nat rt C ∧ @Ne Nat rt D)) : RuleEnd h₀ L m I oI C oC D oD news s (.ref x) { s with heap := h', toks := tk' } :=
  ⟨h', tk', x, d, rt, es, n, k, num, its, rfl, rfl, F, N, re, hs, h1, h2, h3⟩
theorem gather {h : Heap} {D : Addr} {oD : Obj} {news' base : List (Addr × Obj)} {p1 p2 p3 p4 p5 p6 p7 p8 p9 p10 p11 p12 : Addr × Obj} (N : News h₀ L h ((D, oD) :: news')) (h1 : p1 ∈ news') (h2 : p2 ∈ news') (h3 : p3 ∈ news') (h4 : p4 ∈ news') (h5 : p5 ∈ news') (h6 : p6 ∈ news') (h7 : p7 ∈ news') (h8 : p8 ∈ news') (h9 : p9 ∈ news') (h10 : p10 ∈ news') (h11 : p11 ∈ news') (h12 : p12 ∈ news') (hb : ∀ p ∈ base, p ∈ news') :
    News h₀ L h ((D, oD) :: p1 :: p2 :: p3 :: p4 :: p5 :: p6 :: p7 :: p8 :: p9 :: p10 :: p11 :: p12 :: base) := fun p hp => by
  simp only [List.mem_cons] at hp
  rcases hp with rfl | rfl | rfl | rfl | rfl | rfl | rfl | rfl | rfl | rfl | rfl | rfl | rfl | hp
  · exact N _ (.head _)
  all_goals first
    | exact N _ (.tail _ (hb _ hp))
    | exact N _ (.tail _ (by assumption))
end
end TFU
-- FK
section TFK
theorem NewObj.intro' {C : Addr} {P : List DictEntry → Prop} {h h' : Heap} {L T d : Addr} {es : List DictEntry} {n : Nat} {news : List (Addr × Obj)} (N : News h L h' news) (h1 : (T, instObj C d) ∈ news) (h2 : (d, dictOf es n) ∈ news) (ne : ¬ @Eq Nat T d) (e : P es) : NewObj C P h (.ref T) h' :=
  ⟨T, d, es, n, rfl, (N _ h1).1, (N _ h2).1, (N _ h1).2.2, (N _ h2).2.2, ne, e⟩
theorem sz2 {its : Array Value} {a b : Value} (h : its.size ≤ #[a, b].size) : its.size ≤ 2 := h
local macro_rules | `(tactic| k_room) => `(tactic| ktr_room)
local macro_rules | `(tactic| walk_at "call ref") => `(tactic| (k_here; (with_reducible show wpAny _ _ (call (Value.ref 229) _ _) _ _ _); k_dflt (refine' Spec.useObj (rule_spec _ _ _ _ _ _ _ _ _ _) ?F ?N ?B ?X ?T ?hk ?hd ?hu ?_; walk_at "my_use"); k_whole; intro x' d' es' n' h' tk' F' N' ne1' ne2' ne3' pe' _; (try simp only [AllNe, and_true] at ne1'); (try simp only [AllNe, and_true] at ne2'); (try dsimp only); (try k_fold)))
local macro_rules | `(tactic| walk_at "eval ListComp") => `(tactic| (k_here; k_dflt (refine comp_rules (by k_asm) (by with_unfolding_all rfl) (by decide) (by rfl) (by decide) (by rfl) ?_)))
local macro_rules | `(tactic| walk_at "Exists") => `(tactic| refine Stop.of ?_)
local macro_rules | `(tactic| walk_at "subscriptTail") => `(tactic| (k_here; (with_reducible show wpAny _ _ (subscriptTail _ (Expr.Slice none _ none _) (Value.ref _) (Value.ref _)) _ _ _); k_dflt (refine' slice_upto ?k1 ?k2 ?k3 ?k4 ?k5 ?_ ?k6 ?k7 ?k8; (case k1 => k_asm); (case k2 => k_asm); (case k3 => (refine ktn_ltOf ?_; simp only [AllLt, and_true]; assumption)); (case k4 => exact (fmod3 _).1); (case k5 => exact (fmod3 _).2); (case k6 => with_unfolding_all rfl); (case k7 => (intro _; with_unfolding_all rfl)); (case k8 => size_fits); k_whole); intro r' its' k' h' F' N' hi' l1; (try k_lt l1); (replace hi' := sz2 hi')))
local macro_rules | `(tactic| walk_at "my_rule") => `(tactic| (refine' rule_at ?N ?e ?l ?s ?h1 ?h2 ?h3; (case N => k_asm); (case h1 => k_mem); (case h2 => k_mem); (case e => assumption); (case l => first | exact .inl rfl | exact .inr rfl); (case h3 => k_mem); (case s => first | assumption | exact Nat.le_refl 2)))
local macro_rules | `(tactic| walk_at "my_rules") => `(tactic| (refine' rules5 ?a ?b ?c ?d ?e; (case a => walk_at "my_rule"); (case b => walk_at "my_rule"); (case c => walk_at "my_rule"); (case d => walk_at "my_rule"); (case e => walk_at "my_rule")))
local macro_rules | `(tactic| walk_at "call ref") => `(tactic| (k_here; (with_reducible show wpAny _ _ (call (Value.ref 311) _ _) _ _ _); k_dflt (refine' Spec.useObj (grammar_spec _ _ _ _ _ _ _ _ _ _ _ _ _ _ _ _ _ _ _ _ _ _ ?hN ?hR ?h5 ?hU) ?F ?N ?B ?X ?T ?hk ?hd ?hu ?_; walk_at "my_use"; (case hN => exact isList_news (by k_asm) (by k_mem)); (case hR => exact isList_news (by k_asm) (by k_mem)); (case h5 => exact rfl); (case hU => walk_at "my_rules")); k_whole; intro x' d' es' n' h' tk' F' N' ne1' ne2' ne3' pe' _; (try simp only [AllNe, and_true] at ne1'); (try simp only [AllNe, and_true] at ne2'); (try dsimp only); (try k_fold)))
local macro_rules | `(tactic| walk_at "call ref") => `(tactic| (k_here; (with_reducible show wpAny _ _ (call (Value.ref 197) _ _) _ _ _); k_dflt (refine' Spec.useObj (parse_spec _ _ _ _ _ _ _ _ _ _ _ _ _ _ _ _ _ _ _ ?hI ?hE ?hN ?hS ?hR ?h5 ?hU) ?F ?N ?B ?X ?T ?hk ?hd ?hu ?_; walk_at "my_use"; (case hE => assumption); (case hI => exact InstAt.of_news (by k_asm) (by k_mem) (by k_mem)); (case hN => exact isList_news (by k_asm) (by k_mem)); (case hS => exact names_strs _ rfl); (case hR => exact isList_news (by k_asm) (by k_mem)); (case h5 => exact rfl); (case hU => walk_at "my_rules")); k_whole; intro x' d' es' n' h' tk' F' N' ne1' ne2' ne3' pe' _; (try simp only [AllNe, and_true] at ne1'); (try simp only [AllNe, and_true] at ne2'); (try dsimp only); (try k_fold)))
set_option maxHeartbeats 16000000 in
theorem tables_spec (w : World) (mean : ExcName → Option Value) (mg mb : PySem.Str → Option Value) (s : Shared) (R D : Addr) :
    Spec w mean mg mb 351 [.ref R, .ref D] 12 100 s (fun r h' => NewObj 197 (fun es => TabEs es R D) s.heap r h') := by
  ((unfold Spec; k_fill))
  intro dp un gd cn cs a ccd cl outer A₀ base h₀ L m Q E B F X T hk hd hu ret
  ((refine wpAny_call ?_; k_dflt ((first   | (refine' enter ?k1q82 ?k2q82 ?k3q82 ?k5q82 ?kAq82 ?kFq82 ?kKq82 ?k6q82 ?k7q82 ?k8q82 ?k9q82 ?kBq82 ?_ ?c2q82 ?c3q82 ?c4q82 ?c5q82; (case kAq82 => exact rfl); (case kFq82 => exact rfl); (case kKq82 => assumption); (case k1q82 => k_asm); (case k2q82 => k_asm); (case k3q82 => k_asm); (case k5q82 => k_asm); (case k6q82 => k_is); (case k7q82 => k_is); (case k8q82 => ktr_room); (case k9q82 => exact BindsTo.of_eq rfl); (case c5q82 => decide); (case kBq82 => exact locs rfl); (case c2q82 => exact rfl); (case c3q82 => exact rfl); (case c4q82 => exact rfl); k_whole; intro L' h' F' N' B' X' T'; (try dsimp only); (try k_fold))   | (refine' enterC ?k1q82 ?k2q82 ?k3q82 ?k5q82 ?kAq82 ?kFq82 ?kKq82 ?k6q82 ?k7q82 ?k8q82 ?k9q82 ?kBq82 ?kDq82 ?_ ?c2q82 ?c3q82 ?c4q82; (case kAq82 => exact rfl); (case kFq82 => exact rfl); (case kKq82 => assumption); (case k1q82 => k_asm); (case k2q82 => k_asm); (case k3q82 => k_asm); (case k5q82 => k_asm); (case k6q82 => k_is); (case k7q82 => k_is); (case k8q82 => ktr_room); (case k9q82 => exact BindsTo.of_eq rfl); (case kBq82 => exact rfl); (case kDq82 => decide +kernel); (case c2q82 => exact rfl); (case c3q82 => exact rfl); (case c4q82 => exact rfl); k_whole; intro L' h' tk' cells' F' N' Y' B' X' T'; k_cells Y'; (try simp only [List.cons_append, List.nil_append] at N'); (try dsimp only); (try k_fold))))))
  k_steps
  unfold Stop
  refine ⟨_, _, _, _, _, _, _, rfl, by rfl, by k_asm, by k_asm, ?step, ?fin⟩
  case step =>
    intro I oI C oC D' m₂ h tk ys nw E' num tn hC hx F N
    (try k_fold)
    k_steps
    refine' RuleEnd.intro ?F ?N ?e ?s ?h1 ?h2 ?h3
    (case F => assumption)
    (case N => assumption)
    (case e => assumption)
    (case s => assumption)
    all_goals (refine ⟨?_, ?_, ?_⟩ <;> k_ne)
  case fin =>
    intro D' h tk y1 y2 y3 y4 news' R1 R2 R3 R4 hb o1 F N
    obtain ⟨x1, d1, es1, n1, rt1, num1, its1, k1, e1', m11, m12, re1, m13, sz1⟩ := R1
    obtain ⟨x2, d2, es2, n2, rt2, num2, its2, k2, e2', m21, m22, re2, m23, sz2⟩ := R2
    obtain ⟨x3, d3, es3, n3, rt3, num3, its3, k3, e3', m31, m32, re3, m33, sz3⟩ := R3
    obtain ⟨x4, d4, es4, n4, rt4, num4, its4, k4, e4', m41, m42, re4, m43, sz4⟩ := R4
    subst e1' e2' e3' e4'
    have N2 := gather N m11 m12 m13 m21 m22 m23 m31 m32 m33 m41 m42 m43 hb
    clear N hb o1 m11 m12 m13 m21 m22 m23 m31 m32 m33 m41 m42 m43
    (try k_fold)
    k_steps
    refine' ret _ _ _ (Fr.keep (by assumption)) (NewObj.intro' ?qN ?q1 ?q2 ?qne ?qe)
    (case qN => k_asm)
    (case q1 => k_mem)
    (case q2 => k_mem)
    (case qne => assumption)
    (case qe => assumption)
end TFK
-- FV
section TFV
theorem Spec.useRow {w : World} {mean : ExcName → Option Value} {mg mb : PySem.Str → Option Value} {f : Addr} {vs : List Value} {d u : Nat} {s : Shared} (S : Spec w mean mg mb f vs d u s (fun r h' => ∃ xs : List Int, xs.length = 9 ∧ (∀ x ∈ xs, Cell x) ∧ NewInts s.heap xs r h'))
    {dp un : Nat} {gd : Option (List Code)} {cn : PySem.Str} {cs : Scope} {a : Addr} {ccd : Value} {cl : List (PySem.Str × Addr)} {outer : List Env} {A₀ : Around} {base h₀ : Heap} {L : Addr} {m : PySem.Str → Option Value} {news : List (Addr × Obj)} {Q E : Value → Shared → Prop}
    (F : Fr h₀ L s.heap m) (N : News h₀ L s.heap news) (B : Below A₀ base outer h₀) (X : (hd.heap_39 w.params).In h₀) (T : Top lawQ LO mean mg mb h₀) (hk : cs.kind = .function) (hd : dp + d < recursionLimit) (hu : un + u < cLine)
    (ret : ∀ l ys n xs h' tk', Fr h₀ L h' m → News h₀ L h' ((l, listOf ys.toArray n) :: news) → AllNe l news → IntsAre ys xs → xs.length = 9 → (∀ x ∈ xs, Cell x) → s.heap.StaysIn h' → Q (.ref l) { s with heap := h', toks := tk' }) :
    wpAny (model Challenge.rw_on0166_01.row.prog w) (ktrTop dp un gd cn cs L a ccd cl outer) (call (.ref f) vs) Q E s :=
  S _ _ _ _ _ _ _ _ _ _ _ _ _ _ _ _ B F X T hk hd hu fun r h' tk' st p => by
    obtain ⟨xs, h9, hC, p⟩ := p
    obtain ⟨l, ys, n, rfl, N', n1, hi⟩ := NewInts.news p F N st
    exact ret l ys n xs h' tk' (F.after st) N' n1 hi h9 hC st
theorem ne_same {prog : Program} {w : World} {A : Around} {E : Value → Shared → Prop} {s : Shared} {a b : Addr} {vs us : List Value} {ns ms : List Int} {Q : Value → Shared → Prop} (hl : s.heap.IsList a vs.toArray) (hi : IntsAre vs ns) (hl' : s.heap.IsList b us.toArray) (hi' : IntsAre us ms) (hu : A.units + 64 < cLine)
    (e : ns = ms) (h : Q (.bool false) s) : wpAny (model prog w) A (compareOp .NotEq (.ref a) (.ref b)) Q E s :=
  ne_intsK hl hi hl' hi' hu (by rw [decide_eq_true e]; exact h)
/-- law's own def, read off the program -/
def lawBody : List Stmt := match Challenge.pw_on0166_01.main.body.getLast? with
  | some (.FunctionDef _ _ b _ _ _ _ _ _ _) => b
  | _ => []
def lawScope : Scope := match Challenge.pw_on0166_01.main.body.getLast? with
  | some (.FunctionDef _ _ _ _ _ _ sc _ _ _) => sc
  | _ => { kind := .function, names := [], isGenerator := false, isCoroutine := false }
abbrev lawE (L fa : Addr) (cd : Value) : Env := envOf (PySem.Str.ofString "law") lawScope L fa cd
/-- what a stretch of law's body does: from s on, law ends and returns True -/
def Ends (w : World) (k : Nat) (L fa : Addr) (cd : Value) (h₀ : Heap) (s : Shared) : Prop :=
  ∀ (mean : ExcName → Option Value) (mg mb : PySem.Str → Option Value) (R : Result → Shared → Prop), Below callerA h₀ [] h₀ → (hd.heap_39 w.params).In h₀ → Top lawQ LO mean mg mb h₀ →
    (∀ h' tk' m', Fr h₀ L h' m' → R (.ok (.ret (.bool true))) { s with heap := h', toks := tk' }) →
    wpAny (model Challenge.rw_on0166_01.row.prog w) (callerA.deeper (lawE L fa cd)) (execs (lawBody.drop k) (lawE L fa cd))
      (fun fl s' => R (.ok (.ret (match fl with | .ret v => v | _ => .none))) s')
      (fun e s' => wpAny (model Challenge.rw_on0166_01.row.prog w) (callerA.deeper (lawE L fa cd)) (leaving (lawE L fa cd) e) (fun _ s'' => R (.error e) s'') (fun e' s'' => R (.error e') s'') s') s
end TFV
-- FI
section TFI
section
variable {prog : Program} {w : World} {A : Around} {E : Value → Shared → Prop} {s : Shared} {env : Env} {h₀ : Heap} {x : PySem.Str} {body : List Stmt} {Q : Flow → Shared → Prop}
/-- a loop over a list of the ledger that stays as it is, and the ledger with it -/
theorem iter_keep {l : Addr} {items : Array Value} {nn : Nat} {m₀ : PySem.Str → Option Value} {news : List (Addr × Obj)} (J : Nat → (PySem.Str → Option Value) → Prop)
    (hh : A.handled = none) (hl : (l, listOf items nn) ∈ news) (F : Fr h₀ env.locals s.heap m₀) (N : News h₀ env.locals s.heap news) (hj : J 0 m₀)
    (turn : ∀ i v m₁ h tk own, items[i]? = some v → J i m₁ → OwnOff own (news.map (·.1)) → Fr h₀ env.locals h (fun y => if y = x then some v else m₁ y) → News h₀ env.locals h (news ++ own) →
      wpAny (model prog w) A (execs body env) (InvPostN h₀ env.locals (fun m' nx => nx = news ∧ J (i + 1) m') own (news.map (·.1)) { s with heap := h, toks := tk } Q) E { s with heap := h, toks := tk })
    (done : ∀ m₁ h tk, J items.size m₁ → Fr h₀ env.locals h m₁ → News h₀ env.locals h news → Q .next { s with heap := h, toks := tk }) :
    wpAny (model prog w) A (pyIter (.ref l)) (fun it s₂ => LoopAtV prog w A h₀ env x body Q E it s₂) E s := by
  have hol : s.heap.get? l = some (listOf items nn) := (N _ hl).1
  have ht : s.heap.IsList l items := ⟨_, hol, rfl, nn, rfl⟩
  have hI : l ≠ s.heap.objs.size := Nat.ne_of_lt (Heap.lt_size hol)
  have fresh : ∀ q ∈ news, ¬ q.1 = s.heap.objs.size := fun q hq e => absurd (Heap.lt_size (N q hq).1) (e ▸ Nat.lt_irrefl _)
  refine wpAny_pyIter_list ht ?_
  have W := Walks.list (prog := prog) (w := w) hh s.heap.objs.size l hI items
  refine ⟨_, _, _, items.size, _, _, m₀, news, (fun i m nx => nx = news ∧ J i m), rfl, W, ?_, ?_, ?_, ⟨⟨_, Heap.get?_push_size _ rfl, rfl, rfl⟩, ht.at fun o e => Heap.get?_push_of_some _ e⟩, F.push _, (fun p hp => ⟨Heap.get?_push_of_some _ (N p hp).1, (N p hp).2⟩), ⟨rfl, hj⟩, ?_, ?_⟩
  · intro hm
    rcases List.mem_cons.mp hm with e | hm
    · exact absurd F.ns.lt (e ▸ Nat.lt_irrefl _)
    · exact (N _ hl).2.1 ((List.mem_singleton.mp hm).symm)
  · intro b hb
    rw [List.mem_singleton.mp hb]
    exact next_is_new F
  · intro p hp hm
    exact fresh p hp (List.mem_singleton.mp hm)
  · rintro i v m₁ nx s₁ own ⟨g, tk, rfl⟩ hin hP ⟨rfl, hJ⟩ hoff hown hget hfp _ F₁ N₁
    have hlo : g.get? l = some (listOf items nn) := (N₁ _ (List.mem_append.mpr (.inr hl))).1
    have sep : OwnOff (own.filter fun p => decide (p.1 = s.heap.objs.size)) (nx.map (·.1)) := by
      intro p hp b hb e
      obtain ⟨q, hq, rfl⟩ := List.mem_map.mp hb
      exact fresh q hq (e.symm.trans (of_decide_eq_true (List.mem_filter.mp hp).2))
    refine wpAny_mono (turn i v m₁ g tk (own.filter fun p => decide (p.1 = s.heap.objs.size)) hP hJ sep F₁ fun p hp => N₁ p ?_) (fun f s₂ p => ?_) fun _ _ e => e
    · rcases List.mem_append.mp hp with hp | hp
      · exact List.mem_append.mpr (.inr hp)
      · exact List.mem_append.mpr (.inl (List.mem_filter.mp hp).1)
    · have fin : InvEndN h₀ env.locals (fun m' ny => ny = nx ∧ J (i + 1) m') (own.filter fun p => decide (p.1 = s.heap.objs.size)) (nx.map (·.1)) { s with heap := g, toks := tk } s₂ →
          LoopStepU h₀ env.locals [s.heap.objs.size] own (fun m ny => ny = nx ∧ J (i + 1) m) { s with heap := g, toks := tk } .next s₂ := by
        rintro ⟨h', tk', m', news', ny, e, F', N', hn, ho, ha, rfl, hJ'⟩
        refine ⟨rfl, h', tk', m', ny, e, F', fun p hp => ?_, fun p hp hm => fresh p hp (List.mem_singleton.mp hm), rfl, hJ'⟩
        rcases List.mem_append.mp hp with hp | hp
        · by_cases hq : p.1 = s.heap.objs.size
          · exact N' p (ho p (List.mem_filter.mpr ⟨hp, decide_eq_true hq⟩))
          · have e1 : p.1 = l := (List.mem_cons.mp (hown p hp)).elim (fun z => absurd z hq) List.mem_singleton.mp
            have e2 : some (listOf items nn) = some p.2 := hlo.symm.trans (e1 ▸ hget p hp)
            have e3 : p = (l, listOf items nn) := Prod.ext e1 (Option.some.inj e2).symm
            exact N' p (hn p (e3 ▸ hl))
        · exact N' p (hn p hp)
      cases f with
      | ret v => exact .ret p
      | brk => exact .brk p
      | next => exact .next (fin p)
      | cont => exact .cont (fin p)
  · rintro h' tk m' nx F' N' _ ⟨rfl, hJ⟩
    exact done m' h' tk hJ F' N'
end
theorem gone1 {x : PySem.Str} {m m₀ : PySem.Str → Option Value} {v : Option Value} (hm : ∀ z, z ≠ x → m z = m₀ z) : (fun z => if z = x then v else m z) = fun z => if z = x then v else m₀ z := by
  funext z
  by_cases h : z = x
  · simp only [h, if_true]
  · simp only [h, if_false, hm z h]
theorem gone2 {x y : PySem.Str} {m m₀ : PySem.Str → Option Value} {v : Option Value} (hm : ∀ z, z ≠ x → z ≠ y → m z = m₀ z) : (fun z => if z = x then v else m z) = fun z => if z = x then v else if z = y then m y else m₀ z := by
  funext z
  by_cases h : z = x
  · simp only [h, if_true]
  · rw [if_neg h, if_neg h]
    by_cases h' : z = y
    · rw [if_pos h', h']
    · rw [if_neg h', hm z h h']
theorem gone3 {x y : PySem.Str} {m m₀ : PySem.Str → Option Value} (hm : ∀ z, z ≠ x → z ≠ y → m z = m₀ z) : m = fun z => if z = x then m x else if z = y then m y else m₀ z := by
  funext z
  by_cases h : z = x
  · simp only [h, if_true]
  · rw [if_neg h]
    by_cases h' : z = y
    · rw [if_pos h', h']
    · rw [if_neg h', hm z h h']
section
variable {prog : Program} {w : World} {A : Around} {E : Value → Shared → Prop} {s : Shared} {env : Env} {h₀ : Heap} {x : PySem.Str} {body : List Stmt} {Q : Flow → Shared → Prop}
theorem gone0 {x : PySem.Str} {m m₀ : PySem.Str → Option Value} (hm : ∀ z, z ≠ x → m z = m₀ z) : m = fun z => if z = x then m x else m₀ z := by
  funext z
  by_cases h : z = x
  · rw [if_pos h, h]
  · rw [if_neg h, hm z h]
/-- a loop over a made tuple of ints that stores nothing but its own name -/
theorem iter_tupK {l : Addr} {vs : List Value} {ks : List Int} {nn : Nat} {m₀ : PySem.Str → Option Value} {news : List (Addr × Obj)} (hI : IntsAre vs ks)
    (hh : A.handled = none) (F : Fr h₀ env.locals s.heap m₀) (N : News h₀ env.locals s.heap ((l, { cls := .type "tuple", data := .seq vs.toArray nn }) :: news)) (hne : AllNe l news)
    (turn : ∀ k t h tk own, k ∈ ks → OwnOff own (news.map (·.1)) → Fr h₀ env.locals h (fun z => if z = x then some (.int k t) else m₀ z) → News h₀ env.locals h (news ++ own) →
      wpAny (model prog w) A (execs body env) (InvPostN h₀ env.locals (fun m' nx => nx = news ∧ ∀ z, z ≠ x → m' z = m₀ z) own (news.map (·.1)) { s with heap := h, toks := tk } Q) E { s with heap := h, toks := tk })
    (done : ∀ q h tk, Fr h₀ env.locals h (fun z => if z = x then q else m₀ z) → News h₀ env.locals h news → Q .next { s with heap := h, toks := tk }) :
    wpAny (model prog w) A (pyIter (.ref l)) (fun it s₂ => LoopAtV prog w A h₀ env x body Q E it s₂) E s := by
  refine iter_tup (fun _ m => ∀ z, z ≠ x → m z = m₀ z) hh F N hne (fun _ _ => rfl) ?_ ?_
  · intro i v m₁ h tk own hv hm hoff F₁ N₁
    obtain ⟨k, t, hk, rfl⟩ := ints_at hI (i := i) (v := v) (by simpa using hv)
    rw [gone1 hm] at F₁
    exact turn k t h tk own (List.mem_of_getElem? hk) hoff F₁ N₁
  · intro m₁ h tk hm F₁ N₁
    rw [gone0 hm] at F₁
    exact done _ h tk F₁ N₁
end
theorem allNe_lt {d : Addr} : ∀ {l : List (Addr × Obj)}, AllLt d l → AllNe d l
  | [], _ => trivial
  | _ :: _, h => ⟨Nat.ne_of_lt h.1, allNe_lt h.2⟩
theorem two_of {a b v : Value} {i : Nat} (h : (#[a, b] : Array Value)[i]? = some v) : v = a ∨ v = b := by
  match i, h with
  | 0, h => exact .inl (by simpa using h.symm)
  | 1, h => exact .inr (by simpa using h.symm)
  | i + 2, h => simp at h
theorem map_same (ns : List Int) (k : Int) : (ns.map fun x => if x = -k then 0 else x) = ns.map fun x => if x + k = 0 then 0 else x := by
  refine List.map_congr_left fun x _ => ?_
  by_cases h : x = -k
  · rw [if_pos h, if_pos (by omega)]
  · rw [if_neg h, if_neg (by omega)]
end TFI
-- FJ
section TFJ
open PyProof.Rows.LCg
section
variable {prog : Program} {w : World} {A : Around} {E : Value → Shared → Prop} {s : Shared} {h₀ : Heap} {L : Addr} {m : PySem.Str → Option Value} {env : Env}
/-- a comprehension whose clause unpacks pairs, by an invariant; a turn leaves what stood -/
theorem pair_block {elt iter : Expr} {a b : PySem.Str} {pa pb tp : Pos} {kk : Nat} {scope : Scope} {cl : List (PySem.Str × Addr)} {pos : Pos} {s₂ : Shared} {I : Addr} {fp wr : List Addr} {n : Nat} {P Md : Nat → Value → Heap → Prop} {St : Nat → Heap → Prop} {Pt : Nat → Value → Value → Prop} {news : List (Addr × Obj)} {RR : Value → Addr → Result → Shared → Prop}
    (J : Nat → List Value → List (Addr × Obj) → Prop) (W : KTurns prog w A (.Tuple [.Name a pa, .Name b pb] kk tp) I fp wr n P Md St)
    (hself : ∀ (s : Shared) (Q : Value → Shared → Prop) (E : Value → Shared → Prop), St 0 s.heap → Q (.ref I) s → wpAny (model prog w) A (pyIter (.ref I)) Q E s)
    (hPt : ∀ i v h, P i v h → ∃ T x y, v = .ref T ∧ h.IsTuple T #[x, y] ∧ Pt i x y) (hwrS : ∀ i h, St i h → ∀ c ∈ wr, ∃ o, h.get? c = some o)
    (hh : A.handled = none) (hsz : n ≤ sizeLine) (hst : St 0 s₂.heap) (hfp : ∀ c ∈ fp, c < s₂.heap.objs.size) (hwr₀ : ∀ c ∈ wr, h₀.get? c = none) (hLw : L ∉ wr) (off : ∀ p ∈ news, p.1 ∉ wr)
    (hcell : ∀ y ∈ scope.names, y.2 ≠ .cell) (hkind : scope.kind = .function) (hxa : scope.names.lookup a = some .local) (hxb : scope.names.lookup b = some .local) (hab : ¬ a = b)
    (F : Fr h₀ L s₂.heap m) (N : News h₀ L s₂.heap news) (hJ : J 0 [] news)
    (step : ∀ i x y ys nw C oC D m₂ h tk (E' : Value → Shared → Prop), i < n → Pt i x y → J i ys nw → NsObj oC m₂ → m₂ a = some x → m₂ b = some y → Fr h₀ L h m → News h₀ L h ((C, oC) :: (D, lst ys) :: nw) →
      wpAny (model prog w) A (eval elt (compEnvC scope cl C env)) (fun r s' => ∃ h' tk' nw', s' = { s₂ with heap := h', toks := tk' } ∧ h.StaysIn h' ∧ News h₀ L h' nw' ∧ (∀ p ∈ nw', p ∈ nw ∨ h.get? p.1 = none) ∧ J (i + 1) (ys ++ [r]) nw') E' { s₂ with heap := h, toks := tk })
    (hRR : ∀ D C h tk m' ys news', Fr h₀ L h m → News h₀ L h ((D, lst ys) :: news') → (∀ p ∈ news', p.1 ≠ D) → h.Ns C m' → h₀.get? C = none → h₀.get? D = none → C ≠ L → D ≠ L → C ≠ D → (∀ p ∈ news', p.1 ≠ C) → J n ys news' → RR (.ref D) C (.ok .next) { s₂ with heap := h, toks := tk }) :
    wpAny (model prog w) A (newList []) (fun acc s₃ => wpAny (model prog w) A (newFunctionEnv scope env.globals cl [] env.qual none .none (some env)) (fun cenv s₄ =>
      codeAny (model prog w) A (.compStart (.ListComp elt [⟨.Tuple [.Name a pa, .Name b pb] kk tp, iter, [], 0⟩] scope pos) 0 (.ref I) acc { cenv with scope := relabel scope env }) (RR acc cenv.locals) s₄) E s₃) E s₂ := by
  refine wpAny_newObj_type (wpAny_newFunctionEnv hcell (by intro y hy; simp at hy) (fun h₁ hns₁ hsb₁ => ?_) hkind)
  dsimp only at hns₁ hsb₁ ⊢
  generalize hH2 : s₂.heap.push { cls := .type "list", dict := none, data := .seq ([] : List Value).toArray } = H2 at hns₁ hsb₁ ⊢
  have hC : H2.objs.size = s₂.heap.objs.size + 1 := by rw [← hH2, Heap.size_push]
  generalize hCe : H2.objs.size = C at *
  generalize hDe : s₂.heap.objs.size = D at *
  have hDC : D ≠ C := by rw [hC]; exact Nat.ne_of_lt (Nat.lt_succ_self _)
  have below : ∀ c, c < D → c ≠ C ∧ c ≠ D := fun c hc => ⟨by rw [hC]; exact Nat.ne_of_lt (Nat.lt_succ_of_lt hc), Nat.ne_of_lt hc⟩
  have old : ∀ c o, s₂.heap.get? c = some o → h₁.get? c = some o := fun c o e => hsb₁.extBut c o (below c (hDe ▸ Heap.lt_size e)).1 (Heap.get?_push_of_some _ (hH2 ▸ Heap.get?_push_of_some _ e))
  have hacc : h₁.get? D = some (lst []) := hsb₁.extBut _ _ hDC (Heap.get?_push_of_some _ (hH2 ▸ hDe ▸ Heap.get?_push_size _ rfl))
  have hst₁ : St 0 h₁ := W.frame _ _ _ hst fun c _ o e => old c o e
  have fresh₀ : ∀ c, D ≤ c → h₀.get? c = none := fun c hc => by
    cases e : h₀.get? c with
    | none => rfl
    | some o' => exact absurd (Heap.lt_size (F.keep c o' e)) (by rw [hDe]; exact Nat.not_lt.mpr hc)
  have hD₀ : h₀.get? D = none := fresh₀ _ (Nat.le_refl _)
  have hC₀ : h₀.get? C = none := fresh₀ _ (by rw [hC]; exact Nat.le_succ _)
  have hLlt : L < D := hDe ▸ F.ns.lt
  have hDL : D ≠ L := Ne.symm (below L hLlt).2
  have hCL : C ≠ L := Ne.symm (below L hLlt).1
  have hDw : D ∉ wr := fun q => Nat.lt_irrefl _ (hfp _ (W.sub _ q))
  have hCf : C ∉ fp := fun q => (below _ (hfp _ q)).1 rfl
  have hDf : D ∉ fp := fun q => (below _ (hfp _ q)).2 rfl
  have hCw : C ∉ wr := fun q => hCf (W.sub _ q)
  have loop : ∀ s₃ : Shared, s₃ = { s₂ with heap := h₁, toks := s₂.toks + ([] : List (PySem.Str × Value)).length } →
      codeAny (model prog w) A (.compLoop (.ListComp elt [⟨.Tuple [.Name a pa, .Name b pb] kk tp, iter, [], 0⟩] scope pos) 0 (.ref I) (.ref D) (compEnvC scope cl C env)) (RR (.ref D) C) s₃ := by
    rintro s₃ rfl
    refine kcp_loop
      (fun k s' => ∃ h' tk i ys m' nw, s' = { s₂ with heap := h', toks := tk } ∧ i ≤ n ∧ k = n + 1 - i ∧ ys.length = i ∧ St i h' ∧ Fr h₀ L h' m ∧ h'.Ns C m' ∧
        News h₀ L h' ((D, lst ys) :: nw) ∧ (∀ p ∈ nw, p.1 ∉ wr ∧ p.1 ≠ C ∧ p.1 ≠ D) ∧ J i ys nw) ?_ (n + 1)
      ⟨h₁, _, 0, [], _, news, rfl, Nat.zero_le _, rfl, rfl, hst₁, F.keeps old, hns₁, fun p hp => ?_, fun p hp => ⟨off p hp, below _ (hDe ▸ Heap.lt_size (N p hp).1)⟩, hJ⟩
    · rintro k s' ⟨h', tk, i, ys, m', nw, rfl, hi, rfl, hyl, hst', F', hn', N', off', hJ'⟩
      by_cases hlt : i < n
      · refine W.item i _ _ _ hlt hst' fun v h₂ tk₂ hMd hk₂ => ?_
        refine W.go i v _ _ _ hMd fun h₃ hP hst₃ hk₃ => ?_
        obtain ⟨T, x, y, rfl, hT, hp⟩ := hPt i v h₃ hP
        have up₃ : ∀ c o, c ∉ wr → h'.get? c = some o → h₃.get? c = some o := fun c o hc e => hk₃ c o hc (hk₂ c o hc e)
        refine kcp_assign (env := compEnvC scope cl C env) hh hT (lookup_relabel_local hxa) (lookup_relabel_local hxb) (by simp [compEnvC, relabel, hkind]) (hn'.at' fun o e => up₃ _ o hCw e) fun h₄ tk₄ hn₄ hs₄ => ?_
        have up : ∀ c o, c ∉ wr → c ≠ C → h'.get? c = some o → h₄.get? c = some o := fun c o h1 h2 e => hs₄ c o h2 (up₃ c o h1 e)
        have hst₄ : St (i + 1) h₄ := W.frame _ _ _ hst₃ fun c hc o e => hs₄ c o (fun q => by have q' : c = C := q; exact hCf (q' ▸ hc)) e
        obtain ⟨oC, heC, hoC⟩ : ∃ oC, h₄.get? C = some oC ∧ NsObj oC _ := ns_obj hn₄
        have F₄ : Fr h₀ L h₄ m := ⟨F'.ns.at' fun o e => up _ o hLw (Ne.symm hCL) e, fun c o e => up c o (fun q => by rw [hwr₀ c q] at e; cases e) (fun q => by rw [q, hC₀] at e; cases e) (F'.keep c o e), F'.above⟩
        have zD : h₄.get? D = some (lst ys) := up _ _ hDw hDC (N' _ (.head _)).1
        have N₄ : News h₀ L h₄ ((C, oC) :: (D, lst ys) :: nw) := fun q hq => by
          rcases List.mem_cons.mp hq with rfl | hq
          · exact ⟨heC, hCL, hC₀⟩
          · rcases List.mem_cons.mp hq with rfl | hq
            · exact ⟨zD, hDL, hD₀⟩
            · exact ⟨up _ _ (off' q hq).1 (off' q hq).2.1 (N' q (.tail _ hq)).1, (N' q (.tail _ hq)).2⟩
        refine wpAny_mono (step i x y ys nw C oC D _ h₄ _ _ hlt hp hJ' hoC (by simp [hab]) (by simp) F₄ N₄) (fun r s₅ h₅ => ?_) fun _ _ e => e
        obtain ⟨h₅, tk₅, nw', rfl, st₅, N₅, fr₅, J₅⟩ := h₅
        refine append_at (hsz := by show ys.toArray.size ≤ sizeLine; rw [List.size_toArray, hyl]; exact Nat.le_trans hi hsz) (st₅ _ _ zD) fun h₆ hs₆ hD₆ => ?_
        have off₅ : ∀ p ∈ nw', p.1 ∉ wr ∧ p.1 ≠ C ∧ p.1 ≠ D := fun p hp => by
          rcases fr₅ p hp with q | q
          · exact off' p q
          · refine ⟨fun c => ?_, fun c => ?_, fun c => ?_⟩
            · obtain ⟨o, e⟩ := hwrS _ _ hst₄ _ c
              rw [q] at e; cases e
            · rw [c, heC] at q; cases q
            · rw [c, zD] at q; cases q
        refine ⟨n + 1 - (i + 1), by omega, h₆, tk₅, i + 1, ys ++ [r], _, nw', rfl, hlt, rfl, by rw [List.length_append, List.length_singleton, hyl], W.frame _ _ _ hst₄ fun c hc o e => hs₆.extBut c o (fun q => hDf (q ▸ hc)) (st₅ c o e), (F₄.keeps st₅).change hs₆ hDL hD₀,
          (hoC.ns (st₅ _ _ heC)).sameBut hs₆ (Ne.symm hDC), fun q hq => ?_, off₅, J₅⟩
        rcases List.mem_cons.mp hq with rfl | hq
        · exact ⟨hD₆.trans (congrArg some (lst_snoc ys r)), hDL, hD₀⟩
        · exact ⟨hs₆.extBut _ _ (off₅ q hq).2.2 (N₅ q hq).1, (N₅ q hq).2⟩
      · have hin : i = n := Nat.le_antisymm hi (Nat.not_lt.mp hlt)
        subst hin
        refine W.done _ _ _ hst' fun h₂ tk₂ hk₂ => ?_
        have F₂ : Fr h₀ L h₂ m := ⟨F'.ns.at' fun o e => hk₂ _ o hLw e, fun c o e => hk₂ c o (fun q => by rw [hwr₀ c q] at e; cases e) (F'.keep c o e), F'.above⟩
        refine hRR _ _ h₂ tk₂ _ ys nw F₂ (fun q hq => ?_) (fun p hp => (off' p hp).2.2) (hn'.at' fun o e => hk₂ _ o hCw e) hC₀ hD₀ hCL hDL (Ne.symm hDC) (fun p hp => (off' p hp).2.1) hJ'
        rcases List.mem_cons.mp hq with rfl | hq
        · exact ⟨hk₂ _ _ hDw (N' _ (.head _)).1, hDL, hD₀⟩
        · exact ⟨hk₂ _ _ (off' q hq).1 (N' q (.tail _ hq)).1, (N' q (.tail _ hq)).2⟩
    · rcases List.mem_cons.mp hp with rfl | hp
      · exact ⟨hacc, hDL, hD₀⟩
      · exact ⟨old _ _ (N p hp).1, (N p hp).2⟩
  exact codeAny_compStart_list (loop _ rfl) (hself _ _ _ hst₁ (loop _ rfl))
/-- what a source of pairs gives to a comprehension -/
def PairSrc (prog : Program) (w : World) (A : Around) (h₀ : Heap) (L : Addr) (m : PySem.Str → Option Value) (env : Env) (elt : Expr) (a b : PySem.Str) (pa pb tp : Pos) (kk : Nat) (scope : Scope) (cl : List (PySem.Str × Addr)) (Fin : Shared → List Value → List (Addr × Obj) → Prop) (xv : Value) (s₂ : Shared) : Prop :=
  ∃ (I : Addr) (fp wr : List Addr) (n : Nat) (P Md : Nat → Value → Heap → Prop) (St : Nat → Heap → Prop) (Pt : Nat → Value → Value → Prop) (news : List (Addr × Obj)) (J : Nat → List Value → List (Addr × Obj) → Prop), xv = .ref I ∧
    KTurns prog w A (.Tuple [.Name a pa, .Name b pb] kk tp) I fp wr n P Md St ∧ (∀ (s : Shared) (Q : Value → Shared → Prop) (E : Value → Shared → Prop), St 0 s.heap → Q (.ref I) s → wpAny (model prog w) A (pyIter (.ref I)) Q E s) ∧
    (∀ i v h, P i v h → ∃ T x y, v = .ref T ∧ h.IsTuple T #[x, y] ∧ Pt i x y) ∧ (∀ i h, St i h → ∀ c ∈ wr, ∃ o, h.get? c = some o) ∧ A.handled = none ∧ n ≤ sizeLine ∧ St 0 s₂.heap ∧ (∀ c ∈ fp, c < s₂.heap.objs.size) ∧ (∀ c ∈ wr, h₀.get? c = none) ∧ L ∉ wr ∧ (∀ p ∈ news, p.1 ∉ wr) ∧
    Fr h₀ L s₂.heap m ∧ News h₀ L s₂.heap news ∧ J 0 [] news ∧
    (∀ i x y ys nw C oC D m₂ h tk (E' : Value → Shared → Prop), i < n → Pt i x y → J i ys nw → NsObj oC m₂ → m₂ a = some x → m₂ b = some y → Fr h₀ L h m → News h₀ L h ((C, oC) :: (D, lst ys) :: nw) →
      wpAny (model prog w) A (eval elt (compEnvC scope cl C env)) (fun r s' => ∃ h' tk' nw', s' = { s₂ with heap := h', toks := tk' } ∧ h.StaysIn h' ∧ News h₀ L h' nw' ∧ (∀ p ∈ nw', p ∈ nw ∨ h.get? p.1 = none) ∧ J (i + 1) (ys ++ [r]) nw') E' { s₂ with heap := h, toks := tk }) ∧
    ∀ ys nw, J n ys nw → Fin s₂ ys nw
def FinP (h₀ : Heap) (L : Addr) (m : PySem.Str → Option Value) (y : PySem.Str) (Q : Flow → Shared → Prop) (s₂ : Shared) (ys : List Value) (nw : List (Addr × Obj)) : Prop :=
  ∀ D h tk, Fr h₀ L h (fun z => if z = y then some (.ref D) else m z) → News h₀ L h ((D, lst ys) :: nw) → AllNe D nw → Q .next { s₂ with heap := h, toks := tk }
/-- a name takes a comprehension whose clause unpacks pairs -/
theorem pair_Assign {elt iter : Expr} {a b y : PySem.Str} {pa pb tp py : Pos} {kk : Nat} {scope : Scope} {cl : List (PySem.Str × Addr)} {pos spos : Pos} {Q : Flow → Shared → Prop} (_F₀ : Fr h₀ L s.heap m) (hLe : env.locals = L)
    (hsw : swapsWith (.ListComp elt [⟨.Tuple [.Name a pa, .Name b pb] kk tp, iter, [], 0⟩] scope pos) (some (.Name y py)) spos.line env = pure true)
    (hclos : closureFor scope env = pure cl) (hcell : ∀ z ∈ scope.names, z.2 ≠ .cell) (hkind : scope.kind = .function)
    (hnames : ∀ z ∈ scope.names, z.2 = .local → scope.names.lookup z.1 = some .local) (hxa : scope.names.lookup a = some .local) (hxb : scope.names.lookup b = some .local) (hab : ¬ a = b)
    (hy : env.kindOf y = some .local) (hp : (env.scope.kind == .class || (env.scope.kind == .module && env.locals != env.globals)) = false)
    (h : wpAny (model prog w) A (eval iter env) (PairSrc prog w A h₀ L m env elt a b pa pb tp kk scope cl (FinP h₀ L m y Q)) E s)
    (hs : ∀ x, foldedSetIterable iter env x = pure x := by intro _; rfl) :
    wpAny (model prog w) A (exec (.Assign [.Name y py] (.ListComp elt [⟨.Tuple [.Name a pa, .Name b pb] kk tp, iter, [], 0⟩] scope pos) spos) env) Q E s := by
  subst hLe
  rw [exec_Assign_Name_used _ _ _ _ hsw]
  refine wpAny_bind (wpAny_standAt (wpAny_bind ?_))
  show wpAny _ A (do let _ ← comprehension (.ListComp elt [⟨.Tuple [.Name a pa, .Name b pb] kk tp, iter, [], 0⟩] scope pos) scope env _ (newList []) false (eval iter env) (some (assign (.Name y py) env))) _ _ s
  refine wpAny_bind (wpAny_mono (wpAny_comprehension_free (use := some (assign (.Name y py) env)) (Q := fun _ s' => Q .next s') rfl hs hclos hkind hnames
    (wpAny_mono h (fun xv s₁ h₁ => ?_) fun _ _ e => e)) (fun _ s' hq => wpAny_pure (wpAny_pure hq)) fun _ _ e => e)
  obtain ⟨I, fp, wr, n, P, Md, St, Pt, news, J, rfl, W, hself, hPt, hwrS, hh, hsz, hst, hfp, hwr₀, hLw, off, F, N, hJ, step, fin⟩ := h₁
  refine hself _ _ _ hst ?_
  refine pair_block J W hself hPt hwrS hh hsz hst hfp hwr₀ hLw off hcell hkind hxa hxb hab F N hJ step ?_
  intro D C h' tk m' ys nw F' N' o1 hn hC₀ hD₀ hCL hDL hCD offC hJn
  show wpAny _ A (assign (.Name y py) env (.ref D)) _ _ _
  refine wpAny_assign_Name (wpAny_storeName_local hy F'.ns (fun h₂ hn₂ hs₂ => ?_) hp)
  have hL₀ : h₀.get? env.locals = none := Heap.get?_none_of_le F'.above
  have F₂ : Fr h₀ env.locals h₂ (fun z => if z = y then some (.ref D) else m z) := ⟨hn₂, fun c o e => hs₂.extBut c o (fun q => by rw [q, hL₀] at e; cases e) (F'.keep c o e), F'.above⟩
  refine ⟨m', hn.sameBut hs₂ hCL, fun h'' hs'' => fin ys nw hJn D h'' _ (F₂.change hs'' hCL hC₀) (fun p hp => ?_) (allNe_of o1)⟩
  have z : h₂.get? p.1 = some p.2 := hs₂.extBut _ _ (N' p hp).2.1 (N' p hp).1
  refine ⟨hs''.extBut _ _ ?_ z, (N' p hp).2⟩
  rcases List.mem_cons.mp hp with rfl | hp
  · exact Ne.symm hCD
  · exact offC p hp
/-- zip of two lists of the ledger, as such a source -/
theorem zip_src {elt : Expr} {a b : PySem.Str} {pa pb tp : Pos} {kk : Nat} {scope : Scope} {cl : List (PySem.Str × Addr)} {l1 l2 : Addr} {xs ys : Array Value} {n1 n2 : Nat} {news : List (Addr × Obj)} {Fin : Shared → List Value → List (Addr × Obj) → Prop} (J : Nat → List Value → List (Addr × Obj) → Prop)
    (hh : A.handled = none) (F : Fr h₀ L s.heap m) (N : News h₀ L s.heap news) (hm1 : (l1, listOf xs n1) ∈ news) (hm2 : (l2, listOf ys n2) ∈ news) (hsz : min xs.size ys.size ≤ sizeLine) (hJ : J 0 [] news)
    (step : ∀ g i x y ws nw C oC D m₂ h tk (E' : Value → Shared → Prop), xs[i]? = some x → ys[i]? = some y → J i ws nw → NsObj oC m₂ → m₂ a = some x → m₂ b = some y → Fr h₀ L h m → News h₀ L h ((C, oC) :: (D, lst ws) :: nw) →
      wpAny (model prog w) A (eval elt (compEnvC scope cl C env)) (fun r s' => ∃ h' tk' nw', s' = { { s with heap := g } with heap := h', toks := tk' } ∧ h.StaysIn h' ∧ News h₀ L h' nw' ∧ (∀ p ∈ nw', p ∈ nw ∨ h.get? p.1 = none) ∧ J (i + 1) (ws ++ [r]) nw') E' { { s with heap := g } with heap := h, toks := tk })
    (fin : ∀ g ws nw, J (min xs.size ys.size) ws nw → Fin { s with heap := g } ws nw) :
    wpAny (model prog w) A (call (.type "zip") [.ref l1, .ref l2]) (PairSrc prog w A h₀ L m env elt a b pa pb tp kk scope cl Fin) E s := by
  have z1 := N _ hm1
  have z2 := N _ hm2
  have hl1 : s.heap.IsList l1 xs := ⟨_, z1.1, rfl, n1, rfl⟩
  have hl2 : s.heap.IsList l2 ys := ⟨_, z2.1, rfl, n2, rfl⟩
  have lt1 : l1 < s.heap.objs.size := Heap.lt_size z1.1
  have lt2 : l2 < s.heap.objs.size := Heap.lt_size z2.1
  have ltL : L < s.heap.objs.size := F.ns.lt
  have D : ZipApart (s.heap.objs.size + 4) (s.heap.objs.size + 2) (s.heap.objs.size + 3) s.heap.objs.size (s.heap.objs.size + 1) l1 l2 := ktu_apart _ _ _ lt1 lt2
  refine call_zip_2 hl1 hl2 fun h' hz hTI hTO hi1 hi2 hs5 hk => ?_
  have W := (WalksT.zip2 (prog := prog) (w := w) hh _ _ _ _ _ _ _ D xs ys).toU
  have wrIs : ∀ c, c ∈ [s.heap.objs.size + 4, s.heap.objs.size + 3, s.heap.objs.size, s.heap.objs.size + 1] → s.heap.objs.size ≤ c := fun c hc => by
    have q : c = s.heap.objs.size + 4 ∨ c = s.heap.objs.size + 3 ∨ c = s.heap.objs.size ∨ c = s.heap.objs.size + 1 := by simpa using hc
    rcases q with rfl | rfl | rfl | rfl
    · exact Nat.le_add_right _ _
    · exact Nat.le_add_right _ _
    · exact Nat.le_refl _
    · exact Nat.le_add_right _ _
  refine ⟨s.heap.objs.size + 4, _, _, min xs.size ys.size, _, _, _, (fun i x y => xs[i]? = some x ∧ ys[i]? = some y), news, J, rfl, KTurns.ofWalksU W, ?_, ?_, ?_, hh, hsz, ⟨hz, hTI, ⟨_, _, hTO⟩, hi1, hi2, hl1.at fun o e => hk l1 o e, hl2.at fun o e => hk l2 o e⟩, ?_, ?_, ?_, ?_, F.keeps hk, N.grown hk, hJ, ?_, fun ws nw hj => fin _ ws nw hj⟩
  · intro s' Q' E' st hq
    exact W.self 0 s' Q' E' st hq
  · rintro i v h ⟨T, vals, rfl, ⟨x, y, hx, hy, rfl⟩, hT⟩
    exact ⟨T, x, y, rfl, hT, hx, hy⟩
  · rintro i h ⟨g1, g2, ⟨u, v, g3⟩, ⟨o1, g4, _⟩, ⟨o2, g5, _⟩, _⟩ c hc
    have q : c = s.heap.objs.size + 4 ∨ c = s.heap.objs.size + 3 ∨ c = s.heap.objs.size ∨ c = s.heap.objs.size + 1 := by simpa using hc
    rcases q with rfl | rfl | rfl | rfl
    · exact ⟨_, g1⟩
    · exact ⟨_, g3⟩
    · exact ⟨_, g4⟩
    · exact ⟨_, g5⟩
  · intro c hc
    have q : c = s.heap.objs.size + 4 ∨ c = s.heap.objs.size + 2 ∨ c = s.heap.objs.size + 3 ∨ c = s.heap.objs.size ∨ c = s.heap.objs.size + 1 ∨ c = l1 ∨ c = l2 := by simpa using hc
    show c < h'.objs.size
    rw [hs5]
    have lt1' : @LT.lt Nat _ l1 s.heap.objs.size := lt1
    have lt2' : @LT.lt Nat _ l2 s.heap.objs.size := lt2
    rcases q with rfl | rfl | rfl | rfl | rfl | rfl | rfl <;> (show @LT.lt Nat _ _ _; omega)
  · exact fun c hc => ktu_new F (wrIs c hc)
  · exact fun hc => Nat.lt_irrefl _ (Nat.lt_of_lt_of_le ltL (wrIs _ hc))
  · exact fun p hp hc => Nat.lt_irrefl _ (Nat.lt_of_lt_of_le (Heap.lt_size (N p hp).1) (wrIs _ hc))
  · rintro i x y ws nw C oC D' m₂ h tk E' _ ⟨hx, hy⟩ hj hC ha hb F' N'
    exact step h' i x y ws nw C oC D' m₂ h tk E' hx hy hj hC ha hb F' N'
end
theorem NewInts.full {h h₀ h' : Heap} {L : Addr} {m : PySem.Str → Option Value} {news : List (Addr × Obj)} {ns : List Int} {r : Value} (P : NewInts h ns r h') (F : Fr h₀ L h m) (N : News h₀ L h news) (st : h.StaysIn h') :
    ∃ l ys n, r = .ref l ∧ News h₀ L h' ((l, listOf ys.toArray n) :: news) ∧ h.get? l = none ∧ IntsAre ys ns := by
  obtain ⟨l, ys, n, e, hg, hn, hi⟩ := P
  obtain ⟨oL, _, _, hL, _⟩ := F.ns
  refine ⟨l, ys, n, e, fun p hp => ?_, hn, hi⟩
  rcases List.mem_cons.mp hp with rfl | hp
  · refine ⟨hg, fun q => ?_, ?_⟩
    · have q' : l = L := q
      rw [q', hL] at hn; cases hn
    · cases q : h₀.get? l with
      | none => rfl
      | some o => rw [F.keep _ _ q] at hn; cases hn
  · exact ⟨st _ _ (N p hp).1, (N p hp).2⟩
/-- r is a list of the ledger: the row x without the cells of b -/
def Cut (nw : List (Addr × Obj)) (b : Int) (x : List Int) (r : Value) : Prop := ∃ (l : Addr) (z : List Value) (e : Nat), r = .ref l ∧ (l, listOf z.toArray e) ∈ nw ∧ IntsAre z (x.map (cutv b))
theorem Cut.mono {nw nw' : List (Addr × Obj)} {b : Int} {x : List Int} {r : Value} (s : ∀ p ∈ nw, p ∈ nw') : Cut nw b x r → Cut nw' b x r := fun ⟨l, z, e, h1, h2, h3⟩ => ⟨l, z, e, h1, s _ h2, h3⟩
def CutJ (base : List (Addr × Obj)) (b1 b2 : Int) (x1 x2 : List Int) (i : Nat) (ws : List Value) (nw : List (Addr × Obj)) : Prop :=
  ws.length = i ∧ (∀ p ∈ base, p ∈ nw) ∧ (∀ r, ws[0]? = some r → Cut nw b1 x1 r) ∧ ∀ r, ws[1]? = some r → Cut nw b2 x2 r
theorem CutJ.zero {base : List (Addr × Obj)} {b1 b2 : Int} {x1 x2 : List Int} : CutJ base b1 b2 x1 x2 0 [] base := ⟨rfl, fun _ hp => hp, by simp, by simp⟩
/-- the rows and their bests, as a turn finds them -/
theorem CutJ.turn {base nw : List (Addr × Obj)} {r1 r2 : Addr} {y1 y2 : List Value} {x1 x2 : List Int} {b1 b2 : Int} {t1 t2 : Tok} {n1 n2 i : Nat} {ws : List Value} {x y : Value} (j : CutJ base b1 b2 x1 x2 i ws nw) (hx : (#[Value.ref r1, Value.ref r2] : Array Value)[i]? = some x) (hy : (#[Value.int b1 t1, Value.int b2 t2] : Array Value)[i]? = some y)
    (m1 : (r1, listOf y1.toArray n1) ∈ base) (m2 : (r2, listOf y2.toArray n2) ∈ base) (i1 : IntsAre y1 x1) (i2 : IntsAre y2 x2) (h1 : x1.length = 9) (h2 : x2.length = 9) :
    ∃ (r : Addr) (u : List Value) (v : List Int) (n : Nat) (b : Int) (t : Tok), x = .ref r ∧ y = .int b t ∧ (r, listOf u.toArray n) ∈ nw ∧ IntsAre u v ∧ v.length = 9 ∧ ∀ nw' R, (∀ p ∈ nw, p ∈ nw') → Cut nw' b v R → CutJ base b1 b2 x1 x2 (i + 1) (ws ++ [R]) nw' := by
  obtain ⟨j1, j2, j3, j4⟩ := j
  match i, hx, hy with
  | 0, hx, hy =>
    have e1 : Value.ref r1 = x := by simpa using hx
    have e2 : Value.int b1 t1 = y := by simpa using hy
    have e3 : ws = [] := List.eq_nil_of_length_eq_zero j1
    subst e3
    refine ⟨r1, y1, x1, n1, b1, t1, e1.symm, e2.symm, j2 _ m1, i1, h1, fun nw' R s c => ⟨rfl, fun p hp => s p (j2 p hp), fun r hr => ?_, by simp⟩⟩
    have e : R = r := by simpa using hr
    exact e ▸ c
  | 1, hx, hy =>
    have e1 : Value.ref r2 = x := by simpa using hx
    have e2 : Value.int b2 t2 = y := by simpa using hy
    obtain ⟨a, e3⟩ := List.length_eq_one_iff.mp j1
    subst e3
    refine ⟨r2, y2, x2, n2, b2, t2, e1.symm, e2.symm, j2 _ m2, i2, h2, fun nw' R s c => ⟨rfl, fun p hp => s p (j2 p hp), fun r hr => ?_, fun r hr => ?_⟩⟩
    · have e : a = r := by simpa using hr
      exact e ▸ (j3 a rfl).mono s
    · have e : R = r := by simpa using hr
      exact e ▸ c
  | i + 2, hx, _ => simp at hx
theorem cut_new {b : Int} (hb : b ≠ 0) (x : List Int) : (x.map fun c => if c = -b then 0 else c) = x.map (cutv b) := by
  refine List.map_congr_left fun c _ => ?_
  unfold cutv
  by_cases h : c = -b
  · rw [if_pos h, if_pos ⟨hb, h⟩]
  · rw [if_neg h, if_neg fun q => h q.2]
theorem cut_old {b : Int} (hb : b = 0) (x : List Int) : x = x.map (cutv b) := by
  refine (List.map_id'' (fun c => ?_) x).symm
  unfold cutv
  exact if_neg fun q => q.1 hb
theorem CutJ.two {base nw : List (Addr × Obj)} {x1 x2 : List Int} {b1 b2 : Int} {ws : List Value} (j : CutJ base b1 b2 x1 x2 2 ws nw) :
    ∃ (l1 l2 : Addr) (z1 z2 : List Value) (e1 e2 : Nat), ws = [.ref l1, .ref l2] ∧ (l1, listOf z1.toArray e1) ∈ nw ∧ (l2, listOf z2.toArray e2) ∈ nw ∧ IntsAre z1 (x1.map (cutv b1)) ∧ IntsAre z2 (x2.map (cutv b2)) ∧ ∀ p ∈ base, p ∈ nw := by
  obtain ⟨j1, j2, j3, j4⟩ := j
  match ws, j1 with
  | [a, b], _ =>
    obtain ⟨l1, z1, e1, rfl, m1, i1⟩ := j3 a rfl
    obtain ⟨l2, z2, e2, rfl, m2, i2⟩ := j4 b rfl
    exact ⟨l1, l2, z1, z2, e1, e2, rfl, m1, m2, i1, i2, j2⟩
end TFJ
-- LE
local macro_rules | `(tactic| walk_at "my_law") => `(tactic| ((case F => k_asm); (case N => k_asm); (case B => k_asm); (case X => k_asm); (case T => k_asm); (case hk => first | exact rfl | assumption); (case hd => k_room); (case hu => decide)))
local macro_rules | `(tactic| walk_at "my_a8") => `(tactic| (k_here; k_dflt (refine LCg.Assign_ListComp_U (F₀ := by k_asm) (by rfl) (by with_unfolding_all rfl) (by rfl) (by decide) (by rfl) (by decide) (by rfl) (by rfl) (by rfl) ?_)))
local macro_rules | `(tactic| walk_at "my_split") => `(tactic| (repeat ((rename _ ∧ _ => qA); obtain ⟨_, _⟩ := qA)))
local macro_rules | `(tactic| walk_at "my_a9") => `(tactic| (with_unfolding_all (refine LCg.CompRest.succ ?_; intro v' I' oI' C' oC' D' m' h' tk' E' hv' hC' hx' F' N' off' ne'; (first | lcg_open hv' | (obtain ⟨t9', hv9'⟩ := hv'; subst hv9')); (try simp only [LCg.Off3, and_true] at off'); walk_at "my_split")))
local macro_rules | `(tactic| walk_at "my_a1") => `(tactic| (k_here; (with_reducible show wpAny _ _ (pyIter (Value.ref _)) (fun it s₂ => LoopAtV _ _ _ _ _ _ _ _ _ it s₂) _ _); refine Stop.of ?_))
section TLE
local macro_rules | `(tactic| walk_at "exec Assign cons ListComp") => `(tactic| walk_at "my_a8")
local macro_rules | `(tactic| k_ne) => `(tactic| ((refine neN ?_); (try dsimp only); first | assumption | (refine Ne.symm ?_; assumption)))
local macro_rules | `(tactic| walk_at "CompRest") => `(tactic| walk_at "my_a9")
local macro_rules | `(tactic| walk_at "call ref") => `(tactic| (k_here; (with_reducible show wpAny _ _ (call (Value.ref 351) _ _) _ _ _); k_dflt (refine' Spec.useObj (tables_spec _ _ _ _ _ _ _) ?F ?N ?B ?X ?T ?hk ?hd ?hu ?_; walk_at "my_law"); k_whole; intro x' d' es' n' h' tk' F' N' ne1' ne2' ne3' pe' _; (try simp only [AllNe, and_true] at ne1'); (try simp only [AllNe, and_true] at ne2'); (try dsimp only); (try k_fold)))
local macro_rules | `(tactic| walk_at "exec For Name Tuple cons nil") => `(tactic| walk_at "my_for")
local macro_rules | `(tactic| walk_at "pyIter ref") => `(tactic| walk_at "my_a1")
theorem cut_len {b : Int} {x : List Int} (h : x.length = 9) : (x.map (cutv b)).length = 9 := (List.length_map _).trans h
theorem cut_at {b : Int} {x : List Int} (h : x.length = 9) : ∀ i, i < 9 → (x.map (cutv b)).getD i 0 = cutv b (x.getD i 0) := fun i hi => getD_mapK (cutv b) x i (by omega)
theorem cells_at {x : List Int} (h : x.length = 9) (C : ∀ c ∈ x, Cell c) : ∀ i, i < 9 → Cell (x.getD i 0) := (all_getD (P := Cell) h).mp C
local macro_rules | `(tactic| k_get) => `(tactic| first | exact TabEs.n6 (by assumption) | exact TabEs.gRows (by assumption))
local macro_rules | `(tactic| walk_at "my_tab") => `(tactic| (refine' tab_of ?N ?e ?h1 ?h2 ?h3 ?h4 ?hk ?hr ?hb; (case N => k_asm); (case h1 => k_mem); (case h2 => k_mem); (case e => assumption); (case h3 => k_mem); (case h4 => k_mem); (case hk => omega); (case hr => exact rfl); (case hb => exact rfl)))
local macro_rules | `(tactic| walk_at "call ref") => `(tactic| (k_here; (with_reducible show wpAny _ _ (call (Value.ref 356) _ _) _ _ _); k_dflt (refine' Spec.use (state_spec _ _ _ _ _ _ _ _ _ _ _ _ _ _ _ _ _ _ _ _ _ _ _ _ _ _ _ ?tabW ?tabC ?hl ?hi ?hn ?hlc ?hic ?hnc ?hcell ?hcut ?hb0 ?hb4) ?F ?N ?B ?X ?T ?hk ?hd ?hu ?_; walk_at "my_law"; (case tabW => walk_at "my_tab"); (case tabC => walk_at "my_tab"); (case hl => walk_at "my_list"); (case hi => assumption); (case hn => assumption); (case hlc => walk_at "my_list"); (case hic => assumption); (case hnc => exact cut_len (by assumption)); (case hcell => exact cells_at (by assumption) (by assumption)); (case hcut => exact cut_at (by assumption)); (case hb0 => exact And.left (by assumption)); (case hb4 => exact And.right (by assumption))); k_whole; rintro r' h' tk' F' N' S' e'; subst e'; (try dsimp only); (try k_fold)))
set_option maxHeartbeats 16000000 in
theorem law_s5 (w : World) (L fa : Addr) (cd : Value) (h₀ : Heap) (s : Shared) (U D S R c1 c2 r1 r2 l1 l2 : Addr) (y1 y2 z1 z2 : List Value) (x1 x2 : List Int) (b1 b2 : Int) (t1 t2 : Tok) (k1 k2 n1 n2 nR e1 e2 : Nat) (m₀ : PySem.Str → Option Value) (q1 q2 : Option Value)
    (F : Fr h₀ L s.heap (fun z => if z = PySem.Str.ofString "left" then some (Value.ref U) else if z = PySem.Str.ofString "row" then q1 else if z = PySem.Str.ofString "rule" then q2 else if z = PySem.Str.ofString "bests" then some (Value.ref D) else if z = PySem.Str.ofString "shown" then some (Value.ref S) else if z = PySem.Str.ofString "rows" then some (Value.ref R) else m₀ z))
    (N : News h₀ L s.heap [(U, listOf #[Value.ref l1, Value.ref l2] 2), (l1, listOf z1.toArray e1), (l2, listOf z2.toArray e2), (D, listOf #[Value.int b1 t1, Value.int b2 t2] 2), (S, listOf #[Value.ref c1, Value.ref c2] 2), (c2, listOf y2.toArray k2), (c1, listOf y1.toArray k1), (R, listOf #[Value.ref r1, Value.ref r2] nR), (r2, listOf y2.toArray n2), (r1, listOf y1.toArray n1)])
    (i1 : IntsAre y1 x1) (i2 : IntsAre y2 x2) (j1 : IntsAre z1 (x1.map (cutv b1))) (j2 : IntsAre z2 (x2.map (cutv b2))) (h1 : x1.length = 9) (h2 : x2.length = 9) (C1 : ∀ x ∈ x1, Cell x) (C2 : ∀ x ∈ x2, Cell x) (p1 : 0 ≤ b1 ∧ b1 ≤ 4) (p2 : 0 ≤ b2 ∧ b2 ≤ 4) :
    Ends w 6 L fa cd h₀ s := by
  unfold Ends
  k_fill
  intro mean mg mb RR B X T ret
  ((unfold lawE; (have e1 : lawScope = lawScope := rfl); (conv at e1 => rhs; unfold lawScope; whnf); (generalize hB : List.drop _ lawBody = body); (conv at hB => lhs; unfold lawBody; whnf); subst hB; rw [e1]; clear e1))
  k_steps
  unfold Stop
  (with_unfolding_all refine' iter_tupK (ks := [0, 1]) (.cons _ _ (.cons _ _ .nil)) (by rfl) (by assumption) (by assumption) (by refine allNe_lt ?_; simp only [AllLt, and_true]; assumption) ?turn ?done)
  case turn =>
    intro k t h tk own hk hoff F2 N2
    (try simp only [List.nil_append, List.cons_append, List.append_nil] at N2)
    have hk' : k = 0 ∨ k = 1 := by simpa using hk
    clear hk
    rcases hk' with rfl | rfl
    all_goals k_steps
  case done =>
    intro q h tk F2 N2
    k_steps
    (rename Fr _ _ _ _ => Ff)
    exact ret _ _ _ Ff
end TLE
-- LD
section TLD
local macro_rules | `(tactic| walk_at "exec Assign cons ListComp") => `(tactic| walk_at "my_a8")
local macro_rules | `(tactic| k_ne) => `(tactic| ((refine neN ?_); (try dsimp only); first | assumption | (refine Ne.symm ?_; assumption)))
local macro_rules | `(tactic| walk_at "CompRest") => `(tactic| walk_at "my_a9")
local macro_rules | `(tactic| walk_at "call ref") => `(tactic| (k_here; (with_reducible show wpAny _ _ (call (Value.ref 211) _ _) _ _ _); k_dflt (refine' Spec.use (without_spec _ _ _ _ _ _ _ _ _ _ ?hl ?hi ?hn) ?F ?N ?B ?X ?T ?hk ?hd ?hu ?_; walk_at "my_law"; (case hl => assumption); (case hi => assumption); (case hn => assumption)); k_whole; intro r' h' tk' F' N' S' P'; (try dsimp only); (try k_fold)))
local macro_rules | `(tactic| walk_at "exec Assign cons ListComp") => `(tactic| (k_here; k_dflt (refine pair_Assign (_F₀ := by k_asm) (by rfl) (by with_unfolding_all rfl) (by rfl) (by decide) (by rfl) (by decide) (by rfl) (by rfl) (by decide) (by rfl) (by rfl) ?_)))
local macro_rules | `(tactic| walk_at "call type:zip") => `(tactic| refine Stop.of ?_)
local macro_rules | `(tactic| walk_at "Exists") => `(tactic| refine Stop.of ?_)
local macro_rules | `(tactic| walk_at "execs cons") => `(tactic| ((with_reducible show wpAny _ _ (execs (Stmt.Assign [Expr.Tuple _ _ _] _ _ :: _) _) _ _ _); refine Stop.of ?_))
local macro_rules | `(tactic| walk_at "my_pad1") => `(tactic| skip)
set_option maxHeartbeats 16000000 in
theorem law_s4 (w : World) (L fa : Addr) (cd : Value) (h₀ : Heap) (s : Shared) (D S R c1 c2 r1 r2 : Addr) (y1 y2 : List Value) (x1 x2 : List Int) (b1 b2 : Int) (t1 t2 : Tok) (k1 k2 n1 n2 nR : Nat) (m₀ : PySem.Str → Option Value) (q1 q2 : Option Value)
    (F : Fr h₀ L s.heap (fun z => if z = PySem.Str.ofString "row" then q1 else if z = PySem.Str.ofString "rule" then q2 else if z = PySem.Str.ofString "bests" then some (Value.ref D) else if z = PySem.Str.ofString "shown" then some (Value.ref S) else if z = PySem.Str.ofString "rows" then some (Value.ref R) else m₀ z))
    (N : News h₀ L s.heap [(D, LCg.lst [Value.int b1 t1, Value.int b2 t2]), (S, LCg.lst [Value.ref c1, Value.ref c2]), (c2, listOf y2.toArray k2), (c1, listOf y1.toArray k1), (R, listOf #[Value.ref r1, Value.ref r2] nR), (r2, listOf y2.toArray n2), (r1, listOf y1.toArray n1)])
    (i1 : IntsAre y1 x1) (i2 : IntsAre y2 x2) (h1 : x1.length = 9) (h2 : x2.length = 9) (C1 : ∀ x ∈ x1, Cell x) (C2 : ∀ x ∈ x2, Cell x) (p1 : 0 ≤ b1 ∧ b1 ≤ 4) (p2 : 0 ≤ b2 ∧ b2 ≤ 4) :
    Ends w 5 L fa cd h₀ s := by
  unfold Ends
  k_fill
  intro mean mg mb RR B X T ret
  ((unfold lawE; (have e1 : lawScope = lawScope := rfl); (conv at e1 => rhs; unfold lawScope; whnf); (generalize hB : List.drop _ lawBody = body); (conv at hB => lhs; unfold lawBody; whnf); subst hB; rw [e1]; clear e1))
  k_steps
  unfold Stop
  (with_unfolding_all refine' zip_src (n1 := nR) (n2 := 2) (CutJ [(D, LCg.lst [Value.int b1 t1, Value.int b2 t2]), (S, LCg.lst [Value.ref c1, Value.ref c2]), (c2, listOf y2.toArray k2), (c1, listOf y1.toArray k1), (R, listOf #[Value.ref r1, Value.ref r2] nR), (r2, listOf y2.toArray n2), (r1, listOf y1.toArray n1)] b1 b2 x1 x2) (by rfl) (by assumption) (by assumption) ?m1 ?m2 ?sz CutJ.zero ?step ?fin)
  case m1 => k_mem
  case m2 => k_mem
  case sz => show 2 ≤ sizeLine; decide
  case step =>
    intro g i x y ws nw C oC D' m₂ h tk E' hx hy hJ hC ha hb F' N'
    obtain ⟨r, u, v, n, b, t, e1, e2, hm, hi, h9, next⟩ := hJ.turn (n1 := n1) (n2 := n2) hx hy (by simp) (by simp) i1 i2 h1 h2
    subst e1 e2
    have hl : h.IsList r u.toArray := isList_news N' (.tail _ (.tail _ hm))
    k_steps
    · unfold Stop
      (rename Heap.StaysIn _ _ => S1)
      (rename NewInts _ _ _ _ => P1)
      obtain ⟨l', ys', n', e', N1, f1, I1⟩ := NewInts.full P1 F' N' S1
      subst e'
      refine ⟨_, _, (l', listOf ys'.toArray n') :: nw, rfl, S1, fun p hp => ?_, fun p hp => ?_, next _ _ (fun p hp => .tail _ hp) ⟨l', ys', n', rfl, .head _, ?_⟩⟩
      · rcases List.mem_cons.mp hp with rfl | hp
        · exact N1 _ (.head _)
        · exact N1 _ (.tail _ (.tail _ (.tail _ hp)))
      · rcases List.mem_cons.mp hp with rfl | hp
        · exact .inr f1
        · exact .inl hp
      · exact cut_new (by omega) v ▸ I1
    · unfold Stop
      exact ⟨_, _, nw, rfl, fun _ _ e => e, fun p hp => N' p (.tail _ (.tail _ hp)), fun p hp => .inl hp, next _ _ (fun _ hp => hp) ⟨r, u, n, rfl, hm, cut_old (by omega) v ▸ hi⟩⟩
  case fin =>
    intro g ws nw hJ
    obtain ⟨l1, l2, z1, z2, e1, e2, rfl, m1, m2, I1, I2, hb⟩ := hJ.two
    intro D2 h tk F' N' ne'
    dsimp only
    k_steps
    unfold Stop
    refine law_s5 w L fa cd h₀ _ D2 D S R c1 c2 r1 r2 l1 l2 y1 y2 z1 z2 x1 x2 b1 b2 t1 t2 k1 k2 n1 n2 nR e1 e2 m₀ q1 q2 F' (fun p hp => ?_) i1 i2 I1 I2 h1 h2 C1 C2 p1 p2 mean mg mb RR B X T ret
    rcases List.mem_cons.mp hp with rfl | hp
    · exact N' _ (.head _)
    · rcases List.mem_cons.mp hp with rfl | hp
      · exact N' _ (.tail _ m1)
      · rcases List.mem_cons.mp hp with rfl | hp
        · exact N' _ (.tail _ m2)
        · exact N' _ (.tail _ (hb _ hp))
end TLD
-- LC
section TLC
local macro_rules | `(tactic| walk_at "exec Assign cons ListComp") => `(tactic| walk_at "my_a8")
local macro_rules | `(tactic| k_ne) => `(tactic| ((refine neN ?_); (try dsimp only); first | assumption | (refine Ne.symm ?_; assumption)))
local macro_rules | `(tactic| walk_at "CompRest") => `(tactic| walk_at "my_a9")
local macro_rules | `(tactic| walk_at "call ref") => `(tactic| (k_here; (with_reducible show wpAny _ _ (call (Value.ref 211) _ _) _ _ _); k_dflt (refine' Spec.useInts (without_spec _ _ _ _ _ _ _ _ _ _ ?hl ?hi ?hn) ?F ?N ?B ?X ?T ?hk ?hd ?hu ?_; walk_at "my_law"; (case hl => walk_at "my_list"); (case hi => assumption); (case hn => assumption)); k_whole; intro l' ys' n' h' tk' F' N' ne' hi' _; (try simp only [AllNe, and_true] at ne'); (try dsimp only); (try k_fold)))
local macro_rules | `(tactic| walk_at "call ref") => `(tactic| (k_here; (with_reducible show wpAny _ _ (call (Value.ref 339) _ _) _ _ _); k_dflt (refine' Spec.useInts (left_spec _ _ _ _ _ _ _ _ _ _ ?hl ?hi ?hn) ?F ?N ?B ?X ?T ?hk ?hd ?hu ?_; walk_at "my_law"; (case hl => walk_at "my_list"); (case hi => assumption); (case hn => assumption)); k_whole; intro l' ys' n' h' tk' F' N' ne' hi' _; (try simp only [AllNe, and_true] at ne'); (try dsimp only); (try k_fold)))
local macro_rules | `(tactic| walk_at "exec For Name Name cons nil") => `(tactic| walk_at "my_for")
local macro_rules | `(tactic| walk_at "compareOp NotEq ref ref") => `(tactic| (k_here; (with_reducible show wpAny _ _ (compareOp CmpOp.NotEq (Value.ref _) (Value.ref _)) _ _ _); k_dflt (refine' ne_same ?k1 ?k2 ?k3 ?k4 ?k5 ?ke ?_; (case k1 => walk_at "my_list"); (case k2 => assumption); (case k3 => walk_at "my_list"); (case k4 => assumption); (case k5 => ktr_units); (case ke => exact map_same _ _); k_whole)))
local macro_rules | `(tactic| walk_at "exec For Name Tuple cons nil") => `(tactic| walk_at "my_for")
local macro_rules | `(tactic| walk_at "pyIter ref") => `(tactic| walk_at "my_a1")
local macro_rules | `(tactic| walk_at "execs cons") => `(tactic| ((with_reducible show wpAny _ _ (execs (Stmt.Assign _ _ _ :: _) _) _ _ _); refine Stop.of ?_))
set_option maxHeartbeats 16000000 in
theorem law_s3 (w : World) (L fa : Addr) (cd : Value) (h₀ : Heap) (s : Shared) (D S R c1 c2 r1 r2 : Addr) (y1 y2 : List Value) (x1 x2 : List Int) (b1 b2 : Int) (t1 t2 : Tok) (k1 k2 n1 n2 nR : Nat) (m₀ : PySem.Str → Option Value)
    (F : Fr h₀ L s.heap (fun z => if z = PySem.Str.ofString "bests" then some (Value.ref D) else if z = PySem.Str.ofString "shown" then some (Value.ref S) else if z = PySem.Str.ofString "rows" then some (Value.ref R) else m₀ z))
    (N : News h₀ L s.heap [(D, LCg.lst [Value.int b1 t1, Value.int b2 t2]), (S, LCg.lst [Value.ref c1, Value.ref c2]), (c2, listOf y2.toArray k2), (c1, listOf y1.toArray k1), (R, listOf #[Value.ref r1, Value.ref r2] nR), (r2, listOf y2.toArray n2), (r1, listOf y1.toArray n1)])
    (i1 : IntsAre y1 x1) (i2 : IntsAre y2 x2) (h1 : x1.length = 9) (h2 : x2.length = 9) (C1 : ∀ x ∈ x1, Cell x) (C2 : ∀ x ∈ x2, Cell x) (p1 : 0 ≤ b1 ∧ b1 ≤ 4) (p2 : 0 ≤ b2 ∧ b2 ≤ 4) :
    Ends w 4 L fa cd h₀ s := by
  unfold Ends
  k_fill
  intro mean mg mb RR B X T ret
  ((unfold lawE; (have e1 : lawScope = lawScope := rfl); (conv at e1 => rhs; unfold lawScope; whnf); (generalize hB : List.drop _ lawBody = body); (conv at hB => lhs; unfold lawBody; whnf); subst hB; rw [e1]; clear e1))
  k_steps
  unfold Stop
  (with_unfolding_all refine' iter_keep (nn := nR) (fun _ m => ∀ z, z ≠ PySem.Str.ofString "row" → z ≠ PySem.Str.ofString "rule" → m z = (fun z => if z = PySem.Str.ofString "bests" then some (Value.ref D) else if z = PySem.Str.ofString "shown" then some (Value.ref S) else if z = PySem.Str.ofString "rows" then some (Value.ref R) else m₀ z) z) (by rfl) ?hl (by assumption) (by assumption) (fun _ _ _ => rfl) ?turn ?done)
  case hl => k_mem
  case turn =>
    intro i v m₁ h tk own hv hJ hoff F' N'
    rw [gone2 hJ] at F'
    (try simp only [List.nil_append, List.cons_append, List.append_nil] at N')
    rcases two_of hv with rfl | rfl
    · k_steps
      unfold Stop
      (with_unfolding_all refine' iter_tupK (ks := [1, 2, 3, 4, 5]) (.cons _ _ (.cons _ _ (.cons _ _ (.cons _ _ (.cons _ _ .nil))))) (by rfl) (by assumption) (by assumption) (by refine allNe_lt ?_; simp only [AllLt, and_true]; assumption) ?turn1 ?done1)
      case turn1 =>
        intro k t h tk own1 hk hoff1 F2 N2
        (try simp only [List.nil_append, List.cons_append, List.append_nil] at N2)
        k_steps
        refine InvEndN.intro (by assumption) (by assumption) ⟨rfl, by (intro z h1; first | rfl | (simp [h1]; done))⟩ (by rfl) (by (intro p hp; repeat (first | exact List.mem_append_left own1 hp | refine List.Mem.tail _ ?_))) (by (intro p hp; repeat (first | exact List.mem_append_right _ hp | refine List.Mem.tail _ ?_)))
      case done1 =>
        intro q h tk F2 N2
        (try simp only [List.nil_append, List.cons_append, List.append_nil] at N2)
        k_steps
    · k_steps
      unfold Stop
      (with_unfolding_all refine' iter_tupK (ks := [1, 2, 3, 4, 5]) (.cons _ _ (.cons _ _ (.cons _ _ (.cons _ _ (.cons _ _ .nil))))) (by rfl) (by assumption) (by assumption) (by refine allNe_lt ?_; simp only [AllLt, and_true]; assumption) ?turn2 ?done2)
      case turn2 =>
        intro k t h tk own1 hk hoff1 F2 N2
        (try simp only [List.nil_append, List.cons_append, List.append_nil] at N2)
        k_steps
        refine InvEndN.intro (by assumption) (by assumption) ⟨rfl, by (intro z h1; first | rfl | (simp [h1]; done))⟩ (by rfl) (by (intro p hp; repeat (first | exact List.mem_append_left own1 hp | refine List.Mem.tail _ ?_))) (by (intro p hp; repeat (first | exact List.mem_append_right _ hp | refine List.Mem.tail _ ?_)))
      case done2 =>
        intro q h tk F2 N2
        (try simp only [List.nil_append, List.cons_append, List.append_nil] at N2)
        k_steps
  case done =>
    intro m₁ h tk hJ F' N'
    rw [gone3 hJ] at F'
    k_steps
    unfold Stop
    exact law_s4 w L fa cd h₀ { s with heap := h, toks := tk } D S R c1 c2 r1 r2 y1 y2 x1 x2 b1 b2 t1 t2 k1 k2 n1 n2 nR m₀ _ _ F' N' i1 i2 h1 h2 C1 C2 p1 p2 mean mg mb RR B X T ret
end TLC
-- LB
section TLB
local macro_rules | `(tactic| walk_at "exec Assign cons ListComp") => `(tactic| walk_at "my_a8")
local macro_rules | `(tactic| k_ne) => `(tactic| ((refine neN ?_); (try dsimp only); first | assumption | (refine Ne.symm ?_; assumption)))
local macro_rules | `(tactic| walk_at "CompRest") => `(tactic| walk_at "my_a9")
local macro_rules | `(tactic| walk_at "call ref") => `(tactic| (k_here; (with_reducible show wpAny _ _ (call (Value.ref 206) _ _) _ _ _); k_dflt (refine' Spec.use (default_spec _ _ _ _ _ _ _ _ ?hl ?hi ?hn) ?F ?N ?B ?X ?T ?hk ?hd ?hu ?_; walk_at "my_law"; (case hl => walk_at "my_list"); (case hi => assumption); (case hn => assumption)); k_whole; rintro r' h' tk' F' N' S' ⟨b', t', e', p'⟩; subst e'; (have q' := best_agrees (by assumption) p'); clear p'; (try dsimp only); (try k_fold)))
local macro_rules | `(tactic| walk_at "call ref") => `(tactic| (k_here; (with_reducible show wpAny _ _ (call (Value.ref 346) _ _) _ _ _); k_dflt (refine' Spec.use (best_spec _ _ _ _ _ _ _ _ ?hl ?hi ?hn) ?F ?N ?B ?X ?T ?hk ?hd ?hu ?_; walk_at "my_law"; (case hl => walk_at "my_list"); (case hi => assumption); (case hn => assumption)); k_whole; rintro r' h' tk' F' N' S' ⟨t', e'⟩; subst e'; (try dsimp only); (try k_fold)))
local macro_rules | `(tactic| walk_at "execs cons") => `(tactic| ((with_reducible show wpAny _ _ (execs (Stmt.For _ _ _ _ _ :: _) _) _ _ _); refine Stop.of ?_))
local macro_rules | `(tactic| walk_at "eval ListComp") => `(tactic| (k_here; k_dflt (refine LCg.ListComp_U (F₀ := by k_asm) (by with_unfolding_all rfl) (by decide) (by rfl) (by decide) (by rfl) ?_)))
local macro_rules | `(tactic| walk_at "compareOp NotEq ref ref") => `(tactic| (k_here; (with_reducible show wpAny _ _ (compareOp CmpOp.NotEq (Value.ref _) (Value.ref _)) _ _ _); k_dflt (refine' ne_same ?k1 ?k2 ?k3 ?k4 ?k5 ?ke ?_; (case k1 => walk_at "my_list"); (case k2 => exact .cons _ _ (.cons _ _ .nil)); (case k3 => walk_at "my_list"); (case k4 => exact .cons _ _ (.cons _ _ .nil)); (case k5 => ktr_units); (case ke => first | rfl | (simp only [*]; done)); k_whole)))
set_option maxHeartbeats 16000000 in
theorem law_s2 (w : World) (L fa : Addr) (cd : Value) (h₀ : Heap) (s : Shared) (S R c1 c2 r1 r2 : Addr) (y1 y2 : List Value) (x1 x2 : List Int) (k1 k2 n1 n2 nR : Nat) (m₀ : PySem.Str → Option Value)
    (F : Fr h₀ L s.heap (fun z => if z = PySem.Str.ofString "shown" then some (Value.ref S) else if z = PySem.Str.ofString "rows" then some (Value.ref R) else m₀ z))
    (N : News h₀ L s.heap [(S, LCg.lst [Value.ref c1, Value.ref c2]), (c2, listOf y2.toArray k2), (c1, listOf y1.toArray k1), (R, listOf #[Value.ref r1, Value.ref r2] nR), (r2, listOf y2.toArray n2), (r1, listOf y1.toArray n1)])
    (i1 : IntsAre y1 x1) (i2 : IntsAre y2 x2) (h1 : x1.length = 9) (h2 : x2.length = 9) (C1 : ∀ x ∈ x1, Cell x) (C2 : ∀ x ∈ x2, Cell x) :
    Ends w 2 L fa cd h₀ s := by
  unfold Ends
  k_fill
  intro mean mg mb RR B X T ret
  ((unfold lawE; (have e1 : lawScope = lawScope := rfl); (conv at e1 => rhs; unfold lawScope; whnf); (generalize hB : List.drop _ lawBody = body); (conv at hB => lhs; unfold lawBody; whnf); subst hB; rw [e1]; clear e1))
  k_steps
  unfold Stop
  (rename Fr _ _ _ _ => Ff)
  (rename News _ _ _ _ => Nf)
  refine law_s3 w L fa cd h₀ { s with heap := _, toks := _ } _ S R c1 c2 r1 r2 y1 y2 x1 x2 _ _ _ _ k1 k2 n1 n2 nR m₀ Ff (fun p hp => Nf p (.tail _ hp)) i1 i2 h1 h2 C1 C2 ⟨?_, ?_⟩ ⟨?_, ?_⟩ mean mg mb RR B X T ret
  all_goals assumption
end TLB
-- LA
section TLA
local macro_rules | `(tactic| walk_at "call ref") => `(tactic| (k_here; (with_reducible show wpAny _ _ (call (Value.ref 329) _ _) _ _ _); k_dflt (refine' Spec.useRow (row_spec _ _ _ _ _ _ _ _ _ _ ?hl ?hi ?hn ?hk0 ?hk1) ?F ?N ?B ?X ?T ?hk ?hd ?hu ?_; walk_at "my_law"; (case hl => walk_at "my_list"); (case hi => assumption); (case hn => omega); (case hk0 => decide); (case hk1 => decide)); k_whole; intro l' ys' n' xs' h' tk' F' N' ne' hi' h9' hC' _; (try simp only [AllNe, and_true] at ne'); (try dsimp only); (try k_fold)))
local macro_rules | `(tactic| walk_at "execs cons") => `(tactic| ((with_reducible show wpAny _ _ (execs (Stmt.Assign [Expr.Name (PySem.Str.ofString "bests") _] _ _ :: _) _) _ _ _); refine Stop.of ?_))
set_option maxHeartbeats 16000000 in
theorem law_s1 (w : World) (L fa : Addr) (cd : Value) (h₀ : Heap) (s : Shared) (l : Addr) (vs : List Value) (ns : List Int)
    (F : Fr h₀ L s.heap (fun y => [(PySem.Str.ofString "script", Value.ref l)].reverse.lookup y)) (N : News h₀ L s.heap []) (hl : h₀.IsList l vs.toArray) (hi : IntsAre vs ns) (hn : ns.length ≤ 63) :
    Ends w 0 L fa cd h₀ s := by
  unfold Ends
  k_fill
  intro mean mg mb RR B X T ret
  ((unfold lawE; (have e1 : lawScope = lawScope := rfl); (conv at e1 => rhs; unfold lawScope; whnf); (generalize hB : List.drop _ lawBody = body); (conv at hB => lhs; unfold lawBody; whnf); subst hB; rw [e1]; clear e1))
  k_steps
  unfold Stop
  (rename Fr _ _ _ _ => Ff)
  (rename News _ _ _ _ => Nf)
  exact law_s2 w L fa cd h₀ { s with heap := _, toks := _ } _ _ _ _ _ _ _ _ _ _ _ _ _ _ _ _ Ff Nf (by assumption) (by assumption) (by assumption) (by assumption) (by assumption) (by assumption) mean mg mb RR B X T ret
end TLA
-- LZ
section TLZ
set_option maxHeartbeats 8000000 in
theorem law_trial : PySem.Challenge.rw_on0166_01.Holds := hd (by
  k_go0
  (rename Fr _ _ _ _ => Ff)
  (rename News _ _ _ _ => Nf)
  (rename Heap.IsList _ _ _ => Lf)
  (rename IntsAre _ _ => If)
  (rename Below _ _ _ _ => Bf)
  (rename Top _ _ _ _ _ _ => Tf)
  (rename Frag.In _ _ => Xf)
  refine law_s1 _ _ _ _ _ { heap := _, gens := _, drawn := _, toks := _, os := _ } _ _ _ Ff Nf Lf If (by omega) _ _ _ (GoodW _ _ _ _ _) Bf Xf Tf ?ret
  intro h' tk' m' F'
  k_steps)
end TLZ
end Mine
set_option maxRecDepth 100000 in
set_option maxHeartbeats 8000000 in
theorem PySem.Challenge.cw_on0166_01_holds : PySem.Challenge.rw_on0166_01.Holds := by
  exact Mine.law_trial
